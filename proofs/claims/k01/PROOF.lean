import PyProof.Rows.All
import Wide.All
import OpenK.AllK
import Wide.FinOn
import HandS.ForMost
import HandS.ForExc
import HandS.Style
import HandS.IsInst
import HandS.Wide
import HandS.Zip
import HandS.Strs
import HandS.Conv
import HandS.Flow
import HandS.CallSlots
import HandS.ExcCtx
import HandS.HotCalls
import HandS.ExcIs
import HandS.TryOnly
import HandS.TupAny
import HandS.TupMul
import KE.GoesEnum
import KE.DataMinMax
import KE.SortData
import KE.DataFind
import HandS.SortKw
import HandS.ReCall
import HandS.Deep
import PyProof.SumAny
import HandS.Dict
import PySem.Challenge.RW_rangepicks_k01_books
set_option Elab.async false
set_option linter.all false
set_option maxRecDepth 100000
set_option maxHeartbeats 4000000
namespace G
open PySem PySem.Spec PyProof.Rows L2
abbrev St := L2.St

/-! ### data, slots, outcomes -/
inductive D where
  | non | bl (b : Bool) | int (i : Int) | str (x : Str) | tup (ds : List D) | lst (ds : List D) | scr (ns : List Int) | obj (n : Nat) | ntup (ds : List D) | adr (a : Addr) | dic (ks : List Str) (ds : List D)
inductive SV where
  | un | val (d : D) | own (ds : List D)
structure Ob where
  cls : Nat
  fs : List (Str × SV)
structure En where
  v : Nat → SV
  s : List Ob
def En.set (e : En) (i : Nat) (x : SV) : En := { e with v := fun j => if j = i then x else e.v j }
theorem En.set_v (e : En) (i j : Nat) (x : SV) : (e.set i x).v j = if j = i then x else e.v j := rfl
theorem En.set_s (e : En) (i : Nat) (x : SV) : (e.set i x).s = e.s := rfl
inductive Rz (α : Type) where
  | ok (a : α) | exc (c : Nat) | bad
def Rz.bind {α β : Type} : Rz α → (α → Rz β) → Rz β
  | .ok a, f => f a
  | .exc c, _ => .exc c
  | .bad, _ => .bad
@[simp] theorem Rz.bind_ok {α β : Type} (a : α) (f : α → Rz β) : Rz.bind (.ok a) f = f a := (rfl)
@[simp] theorem Rz.bind_exc {α β : Type} (c : Nat) (f : α → Rz β) : Rz.bind (.exc c) f = .exc c := (rfl)
@[simp] theorem Rz.bind_bad {α β : Type} (f : α → Rz β) : Rz.bind .bad f = .bad := (rfl)
def Rz.ofO {α : Type} : Option α → Rz α
  | some a => .ok a
  | none => .bad
@[simp] theorem Rz.ofO_some {α : Type} (a : α) : Rz.ofO (some a) = .ok a := (rfl)
@[simp] theorem Rz.ofO_none {α : Type} : Rz.ofO (none : Option α) = .bad := (rfl)
inductive SR where
  | next (e : En) | ret (d : D) (e : En) | brk (e : En) | cont (e : En) | exc (c : Nat) (e : En) | bad

/-! ### how data stand in the abstract heap -/
structure Gm where
  own : Addr → Option Nat
  om : Nat → Option Addr
def Gm.bare (Γ : Gm) : Gm := { Γ with own := fun _ => none }
def Gm.mark (Γ : Gm) (p : Addr) (i : Nat) : Gm := { Γ with own := fun a => if a = p then some i else Γ.own a }
def Gm.free (Γ : Gm) (p : Addr) : Gm := { Γ with own := fun a => if a = p then none else Γ.own a }
/-- Γ' marks no more than Γ, and knows the same objects -/
structure Gm.Le (Γ' Γ : Gm) : Prop where
  ow : ∀ a, Γ.own a = none → Γ'.own a = none
  om : ∀ n a, Γ.om n = some a → Γ'.om n = some a
theorem Gm.Le.refl (Γ : Gm) : Γ.Le Γ := ⟨fun _ h => h, fun _ _ h => h⟩
theorem Gm.bare_le (Γ : Gm) : Γ.bare.Le Γ := ⟨fun _ _ => rfl, fun _ _ h => h⟩
theorem Gm.le_mark (Γ : Gm) (p : Addr) (i : Nat) : Γ.Le (Γ.mark p i) := ⟨fun a h => by
  unfold Gm.mark at h; dsimp only at h; split at h
  · cases h
  · exact h, fun _ _ h => h⟩
theorem Gm.free_le (Γ : Gm) (p : Addr) : (Γ.free p).Le Γ := ⟨fun a h => by
  unfold Gm.free; dsimp only; split
  · rfl
  · exact h, fun _ _ h => h⟩

/-- a list of the written part -/
def KL (K : PySem.W.Frag) (a : Addr) (xs : List V) : Prop := ∃ (o : Obj) (its : Array Value) (n : Nat), K.lookup a = some o ∧ o.cls = .type "list" ∧ o.dict = none ∧ o.data = .seq its n ∧ its.size ≤ sizeLine ∧ Vals xs its.toList
def ScrAt (K : PySem.W.Frag) (Γ : Gm) (H : Hp) (a : Addr) (xs : List V) : Prop := (Rd H a (.lst xs) ∧ Γ.own a = none) ∨ KL K a xs
/-- a tuple that has no dict -/
def NTup (H : Hp) (a : Addr) (vs : List V) : Prop := ∃ o : Obj, H a = some (.frz o (.tup vs)) ∧ o.cls = .type "tuple" ∧ o.dict = none
def dkv (ks : List Str) (vs : List V) : List (Key × V) := (ks.map Sum.inr).zip vs
mutual
def Rep (K : PySem.W.Frag) (Γ : Gm) (H : Hp) : D → V → Prop
  | .non, v => v = .non
  | .bl b, v => v = .bl b
  | .int i, v => v = .int i
  | .str x, v => v = .str x
  | .tup ds, v => ∃ a vs, v = .ref a ∧ SqT K H a vs ∧ RepL K Γ H ds vs
  | .lst ds, v => ∃ a vs, v = .ref a ∧ H a = some (.lst vs) ∧ Γ.own a = none ∧ RepL K Γ H ds vs
  | .scr ns, v => ∃ a, v = .ref a ∧ ScrAt K Γ H a (ns.map V.int)
  | .obj n, v => ∃ a, v = .ref a ∧ Γ.om n = some a
  | .ntup ds, v => ∃ a vs, v = .ref a ∧ NTup H a vs ∧ RepL K Γ H ds vs
  | .adr a, v => v = .ref a
  | .dic ks ds, v => ∃ a vs, v = .ref a ∧ H a = some (.dK (dkv ks vs)) ∧ Γ.own a = none ∧ ks.length = vs.length ∧ RepL K Γ H ds vs
def RepL (K : PySem.W.Frag) (Γ : Gm) (H : Hp) : List D → List V → Prop
  | [], vs => vs = []
  | d :: ds, vs => ∃ v r, vs = v :: r ∧ Rep K Γ H d v ∧ RepL K Γ H ds r
end
theorem sqt_same {K : PySem.W.Frag} {H H' : Hp} {a : Addr} {xs : List V} (e : Same H H') (h : SqT K H a xs) : SqT K H' a xs := by
  rcases h with (h | ⟨o, h⟩) | h
  · exact .inl (.inl (e _ _ h))
  · exact .inl (.inr ⟨o, e _ _ h⟩)
  · exact .inr h
theorem rd_same {H H' : Hp} {a : Addr} {u : HO} (e : Same H H') (h : Rd H a u) : Rd H' a u := by
  rcases h with h | ⟨o, h⟩
  · exact .inl (e _ _ h)
  · exact .inr ⟨o, e _ _ h⟩
theorem same_new {H : Hp} {p : Addr} {o : HO} (h : H p = none) : Same H (upd H p o) := fun b x e => by
  rw [upd_ne (ne_of_none e h)]
  exact e
section
variable {K : PySem.W.Frag} {Γ Γ' : Gm} {H H' : Hp}
mutual
theorem Rep.same (e : Same H H') : ∀ {d : D} {v : V}, Rep K Γ H d v → Rep K Γ H' d v
  | .non, _, h => by unfold Rep at h ⊢; exact h
  | .bl _, _, h => by unfold Rep at h ⊢; exact h
  | .int _, _, h => by unfold Rep at h ⊢; exact h
  | .str _, _, h => by unfold Rep at h ⊢; exact h
  | .tup _, _, h => by
    unfold Rep at h ⊢
    obtain ⟨a, vs, r, q, t⟩ := h
    exact ⟨a, vs, r, sqt_same e q, RepL.same e t⟩
  | .lst _, _, h => by
    unfold Rep at h ⊢
    obtain ⟨a, vs, r, q, o, t⟩ := h
    exact ⟨a, vs, r, e _ _ q, o, RepL.same e t⟩
  | .scr _, _, h => by
    unfold Rep at h ⊢
    obtain ⟨a, r, q⟩ := h
    rcases q with ⟨q, o⟩ | q
    · exact ⟨a, r, .inl ⟨rd_same e q, o⟩⟩
    · exact ⟨a, r, .inr q⟩
  | .obj _, _, h => by unfold Rep at h ⊢; exact h
  | .ntup _, _, h => by
    unfold Rep at h ⊢
    obtain ⟨a, vs, r, ⟨o, q1, q2⟩, t⟩ := h
    exact ⟨a, vs, r, ⟨o, e _ _ q1, q2⟩, RepL.same e t⟩
  | .adr _, _, h => by unfold Rep at h ⊢; exact h
  | .dic _ _, _, h => by
    unfold Rep at h ⊢
    obtain ⟨a, vs, r, q, o, l, t⟩ := h
    exact ⟨a, vs, r, e _ _ q, o, l, RepL.same e t⟩
theorem RepL.same (e : Same H H') : ∀ {ds : List D} {vs : List V}, RepL K Γ H ds vs → RepL K Γ H' ds vs
  | [], _, h => by unfold RepL at h ⊢; exact h
  | _ :: _, _, h => by
    unfold RepL at h ⊢
    obtain ⟨v, r, q, h1, h2⟩ := h
    exact ⟨v, r, q, Rep.same e h1, RepL.same e h2⟩
end
mutual
theorem Rep.weak (l : Γ'.Le Γ) : ∀ {d : D} {v : V}, Rep K Γ H d v → Rep K Γ' H d v
  | .non, _, h => by unfold Rep at h ⊢; exact h
  | .bl _, _, h => by unfold Rep at h ⊢; exact h
  | .int _, _, h => by unfold Rep at h ⊢; exact h
  | .str _, _, h => by unfold Rep at h ⊢; exact h
  | .tup _, _, h => by
    unfold Rep at h ⊢
    obtain ⟨a, vs, r, q, t⟩ := h
    exact ⟨a, vs, r, q, RepL.weak l t⟩
  | .lst _, _, h => by
    unfold Rep at h ⊢
    obtain ⟨a, vs, r, q, o, t⟩ := h
    exact ⟨a, vs, r, q, l.ow _ o, RepL.weak l t⟩
  | .scr _, _, h => by
    unfold Rep at h ⊢
    obtain ⟨a, r, q⟩ := h
    rcases q with ⟨q, o⟩ | q
    · exact ⟨a, r, .inl ⟨q, l.ow _ o⟩⟩
    · exact ⟨a, r, .inr q⟩
  | .obj _, _, h => by
    unfold Rep at h ⊢
    obtain ⟨a, r, q⟩ := h
    exact ⟨a, r, l.om _ _ q⟩
  | .ntup _, _, h => by
    unfold Rep at h ⊢
    obtain ⟨a, vs, r, q, t⟩ := h
    exact ⟨a, vs, r, q, RepL.weak l t⟩
  | .adr _, _, h => by unfold Rep at h ⊢; exact h
  | .dic _ _, _, h => by
    unfold Rep at h ⊢
    obtain ⟨a, vs, r, q, o, le, t⟩ := h
    exact ⟨a, vs, r, q, l.ow _ o, le, RepL.weak l t⟩
theorem RepL.weak (l : Γ'.Le Γ) : ∀ {ds : List D} {vs : List V}, RepL K Γ H ds vs → RepL K Γ' H ds vs
  | [], _, h => by unfold RepL at h ⊢; exact h
  | _ :: _, _, h => by
    unfold RepL at h ⊢
    obtain ⟨v, r, q, h1, h2⟩ := h
    exact ⟨v, r, q, Rep.weak l h1, RepL.weak l h2⟩
end
mutual
/-- a marked list is written: what avoids it stays -/
theorem Rep.wr {p : Addr} {ws vs' : List V} (hp : Γ.own p ≠ none) (hl : H p = some (.lst ws)) : ∀ {d : D} {v : V}, Rep K Γ H d v → Rep K Γ (upd H p (.lst vs')) d v
  | .non, _, h => by unfold Rep at h ⊢; exact h
  | .bl _, _, h => by unfold Rep at h ⊢; exact h
  | .int _, _, h => by unfold Rep at h ⊢; exact h
  | .str _, _, h => by unfold Rep at h ⊢; exact h
  | .tup _, _, h => by
    unfold Rep at h ⊢
    obtain ⟨a, vs, r, q, t⟩ := h
    refine ⟨a, vs, r, ?_, RepL.wr hp hl t⟩
    rcases q with (q | ⟨o, q⟩) | q
    · exact .inl (.inl (by rw [upd_ne (ne_of q hl (fun z => HO.noConfusion z))]; exact q))
    · exact .inl (.inr ⟨o, by rw [upd_ne (ne_of q hl (fun z => HO.noConfusion z))]; exact q⟩)
    · exact .inr q
  | .lst _, _, h => by
    unfold Rep at h ⊢
    obtain ⟨a, vs, r, q, o, t⟩ := h
    refine ⟨a, vs, r, ?_, o, RepL.wr hp hl t⟩
    have ne : a ≠ p := fun z => hp (z ▸ o)
    rw [upd_ne ne]; exact q
  | .scr _, _, h => by
    unfold Rep at h ⊢
    obtain ⟨a, r, q⟩ := h
    refine ⟨a, r, ?_⟩
    rcases q with ⟨q, o⟩ | q
    · refine .inl ⟨?_, o⟩
      have ne : a ≠ p := fun z => hp (z ▸ o)
      rcases q with q | ⟨ob, q⟩
      · exact .inl (by rw [upd_ne ne]; exact q)
      · exact .inr ⟨ob, by rw [upd_ne ne]; exact q⟩
    · exact .inr q
  | .obj _, _, h => by unfold Rep at h ⊢; exact h
  | .ntup _, _, h => by
    unfold Rep at h ⊢
    obtain ⟨a, vs, r, ⟨o, q1, q2⟩, t⟩ := h
    exact ⟨a, vs, r, ⟨o, by rw [upd_ne (ne_of q1 hl (fun z => HO.noConfusion z))]; exact q1, q2⟩, RepL.wr hp hl t⟩
  | .adr _, _, h => by unfold Rep at h ⊢; exact h
  | .dic _ _, _, h => by
    unfold Rep at h ⊢
    obtain ⟨a, vs, r, q, o, l, t⟩ := h
    exact ⟨a, vs, r, by rw [upd_ne (ne_of q hl (fun z => HO.noConfusion z))]; exact q, o, l, RepL.wr hp hl t⟩
theorem RepL.wr {p : Addr} {ws vs' : List V} (hp : Γ.own p ≠ none) (hl : H p = some (.lst ws)) : ∀ {ds : List D} {vs : List V}, RepL K Γ H ds vs → RepL K Γ (upd H p (.lst vs')) ds vs
  | [], _, h => by unfold RepL at h ⊢; exact h
  | _ :: _, _, h => by
    unfold RepL at h ⊢
    obtain ⟨v, r, q, h1, h2⟩ := h
    exact ⟨v, r, q, Rep.wr hp hl h1, RepL.wr hp hl h2⟩
end
mutual
/-- a place that is free may be marked -/
theorem Rep.marked {p : Addr} {i : Nat} (hp : H p = none) : ∀ {d : D} {v : V}, Rep K Γ H d v → Rep K (Γ.mark p i) H d v
  | .non, _, h => by unfold Rep at h ⊢; exact h
  | .bl _, _, h => by unfold Rep at h ⊢; exact h
  | .int _, _, h => by unfold Rep at h ⊢; exact h
  | .str _, _, h => by unfold Rep at h ⊢; exact h
  | .tup _, _, h => by
    unfold Rep at h ⊢
    obtain ⟨a, vs, r, q, t⟩ := h
    exact ⟨a, vs, r, q, RepL.marked hp t⟩
  | .lst _, _, h => by
    unfold Rep at h ⊢
    obtain ⟨a, vs, r, q, o, t⟩ := h
    refine ⟨a, vs, r, q, ?_, RepL.marked hp t⟩
    show (if a = p then some i else Γ.own a) = none
    rw [if_neg (ne_of_none q hp)]; exact o
  | .scr _, _, h => by
    unfold Rep at h ⊢
    obtain ⟨a, r, q⟩ := h
    refine ⟨a, r, ?_⟩
    rcases q with ⟨q, o⟩ | q
    · refine .inl ⟨q, ?_⟩
      show (if a = p then some i else Γ.own a) = none
      rcases q with q | ⟨ob, q⟩
      · rw [if_neg (ne_of_none q hp)]; exact o
      · rw [if_neg (ne_of_none q hp)]; exact o
    · exact .inr q
  | .obj _, _, h => by unfold Rep at h ⊢; exact h
  | .ntup _, _, h => by
    unfold Rep at h ⊢
    obtain ⟨a, vs, r, q, t⟩ := h
    exact ⟨a, vs, r, q, RepL.marked hp t⟩
  | .adr _, _, h => by unfold Rep at h ⊢; exact h
  | .dic _ _, _, h => by
    unfold Rep at h ⊢
    obtain ⟨a, vs, r, q, o, l, t⟩ := h
    refine ⟨a, vs, r, q, ?_, l, RepL.marked hp t⟩
    show (if a = p then some i else Γ.own a) = none
    rw [if_neg (ne_of_none q hp)]; exact o
theorem RepL.marked {p : Addr} {i : Nat} (hp : H p = none) : ∀ {ds : List D} {vs : List V}, RepL K Γ H ds vs → RepL K (Γ.mark p i) H ds vs
  | [], _, h => by unfold RepL at h ⊢; exact h
  | _ :: _, _, h => by
    unfold RepL at h ⊢
    obtain ⟨v, r, q, h1, h2⟩ := h
    exact ⟨v, r, q, Rep.marked hp h1, RepL.marked hp h2⟩
end
mutual
def D.nol : D → Bool
  | .lst _ => false
  | .scr _ => false
  | .dic _ _ => false
  | .tup ds => D.nolL ds
  | .ntup ds => D.nolL ds
  | _ => true
def D.nolL : List D → Bool
  | [] => true
  | d :: ds => d.nol && D.nolL ds
end
mutual
theorem Rep.any (ho : ∀ n a, Γ.om n = some a → Γ'.om n = some a) : ∀ {d : D} {v : V}, d.nol = true → Rep K Γ H d v → Rep K Γ' H d v
  | .non, _, _, h => by unfold Rep at h ⊢; exact h
  | .bl _, _, _, h => by unfold Rep at h ⊢; exact h
  | .int _, _, _, h => by unfold Rep at h ⊢; exact h
  | .str _, _, _, h => by unfold Rep at h ⊢; exact h
  | .tup ds, _, n, h => by
    unfold Rep at h ⊢
    obtain ⟨a, vs, r, q, t⟩ := h
    exact ⟨a, vs, r, q, RepL.any ho (by unfold D.nol at n; exact n) t⟩
  | .lst _, _, n, h => by unfold D.nol at n; cases n
  | .scr _, _, n, h => by unfold D.nol at n; cases n
  | .obj _, _, _, h => by
    unfold Rep at h ⊢
    obtain ⟨a, r, q⟩ := h
    exact ⟨a, r, ho _ _ q⟩
  | .ntup ds, _, n, h => by
    unfold Rep at h ⊢
    obtain ⟨a, vs, r, q, t⟩ := h
    exact ⟨a, vs, r, q, RepL.any ho (by unfold D.nol at n; exact n) t⟩
  | .adr _, _, _, h => by unfold Rep at h ⊢; exact h
  | .dic _ _, _, n, h => by unfold D.nol at n; cases n
theorem RepL.any (ho : ∀ n a, Γ.om n = some a → Γ'.om n = some a) : ∀ {ds : List D} {vs : List V}, D.nolL ds = true → RepL K Γ H ds vs → RepL K Γ' H ds vs
  | [], _, _, h => by unfold RepL at h ⊢; exact h
  | _ :: _, _, n, h => by
    unfold RepL at h ⊢
    unfold D.nolL at n
    obtain ⟨n1, n2⟩ := Bool.and_eq_true_iff.mp n
    obtain ⟨v, r, q, h1, h2⟩ := h
    exact ⟨v, r, q, Rep.any ho n1 h1, RepL.any ho n2 h2⟩
end
theorem RepL.length : ∀ {ds : List D} {vs : List V}, RepL K Γ H ds vs → vs.length = ds.length
  | [], _, h => by unfold RepL at h; subst h; rfl
  | _ :: _, _, h => by
    unfold RepL at h
    obtain ⟨v, r, rfl, _, h2⟩ := h
    simp [RepL.length h2]
theorem RepL.nil : RepL K Γ H [] [] := by unfold RepL; rfl
theorem RepL.cons {d : D} {ds : List D} {v : V} {vs : List V} (h : Rep K Γ H d v) (t : RepL K Γ H ds vs) : RepL K Γ H (d :: ds) (v :: vs) := by unfold RepL; exact ⟨v, vs, rfl, h, t⟩
theorem RepL.append : ∀ {ds es : List D} {vs us : List V}, RepL K Γ H ds vs → RepL K Γ H es us → RepL K Γ H (ds ++ es) (vs ++ us)
  | [], _, _, _, h, t => by unfold RepL at h; subst h; exact t
  | _ :: _, _, _, _, h, t => by
    unfold RepL at h
    obtain ⟨v, r, rfl, h1, h2⟩ := h
    exact .cons h1 (RepL.append h2 t)
theorem RepL.get : ∀ {ds : List D} {vs : List V} {i : Nat} {d : D}, RepL K Γ H ds vs → ds[i]? = some d → ∃ v, vs[i]? = some v ∧ Rep K Γ H d v
  | [], _, _, _, _, e => by simp at e
  | _ :: _, _, 0, _, h, e => by
    unfold RepL at h
    obtain ⟨v, r, rfl, h1, h2⟩ := h
    simp at e; subst e
    exact ⟨v, rfl, h1⟩
  | _ :: _, _, i + 1, _, h, e => by
    unfold RepL at h
    obtain ⟨v, r, rfl, h1, h2⟩ := h
    exact RepL.get (i := i) h2 (by simpa using e)
theorem RepL.getV : ∀ {ds : List D} {vs : List V} {i : Nat} {v : V}, RepL K Γ H ds vs → vs[i]? = some v → ∃ d, ds[i]? = some d ∧ Rep K Γ H d v
  | [], _, _, _, h, e => by unfold RepL at h; subst h; simp at e
  | _ :: _, _, 0, _, h, e => by
    unfold RepL at h
    obtain ⟨v, r, rfl, h1, h2⟩ := h
    simp at e; subst e
    exact ⟨_, rfl, h1⟩
  | _ :: _, _, i + 1, _, h, e => by
    unfold RepL at h
    obtain ⟨v, r, rfl, h1, h2⟩ := h
    exact RepL.getV (i := i) h2 (by simpa using e)
theorem RepL.take : ∀ {ds : List D} {vs : List V} (n : Nat), RepL K Γ H ds vs → RepL K Γ H (ds.take n) (vs.take n)
  | _, _, 0, _ => by simp; exact .nil
  | [], _, n + 1, h => by unfold RepL at h; subst h; simp; exact .nil
  | _ :: _, _, n + 1, h => by
    unfold RepL at h
    obtain ⟨v, r, rfl, h1, h2⟩ := h
    exact .cons h1 (RepL.take n h2)
theorem RepL.drop : ∀ {ds : List D} {vs : List V} (n : Nat), RepL K Γ H ds vs → RepL K Γ H (ds.drop n) (vs.drop n)
  | _, _, 0, h => h
  | [], _, n + 1, h => by unfold RepL at h; subst h; simp; exact .nil
  | _ :: _, _, n + 1, h => by
    unfold RepL at h
    obtain ⟨v, r, rfl, h1, h2⟩ := h
    exact RepL.drop n h2
theorem RepL.set : ∀ {ds : List D} {vs : List V} (n : Nat) {d : D} {v : V}, RepL K Γ H ds vs → Rep K Γ H d v → RepL K Γ H (ds.set n d) (vs.set n v)
  | [], _, n, _, _, h, _ => by unfold RepL at h; subst h; simp; exact .nil
  | _ :: _, _, 0, _, _, h, k => by
    unfold RepL at h
    obtain ⟨v, r, rfl, h1, h2⟩ := h
    exact .cons k h2
  | _ :: _, _, n + 1, _, _, h, k => by
    unfold RepL at h
    obtain ⟨v, r, rfl, h1, h2⟩ := h
    exact .cons h1 (RepL.set n h2 k)
theorem RepL.ints : ∀ {ns : List Int} {vs : List V}, RepL K Γ H (ns.map D.int) vs → vs = ns.map V.int
  | [], _, h => by simpa [RepL] using h
  | _ :: _, _, h => by
    simp only [List.map_cons] at h
    unfold RepL at h
    obtain ⟨v, r, rfl, h1, h2⟩ := h
    unfold Rep at h1
    rw [h1, RepL.ints h2, List.map_cons]
theorem RepL.of_ints : ∀ (ns : List Int), RepL K Γ H (ns.map D.int) (ns.map V.int)
  | [] => .nil
  | n :: ns => .cons (by unfold Rep; rfl) (RepL.of_ints ns)
theorem RepL.reverse : ∀ {ds : List D} {vs : List V}, RepL K Γ H ds vs → RepL K Γ H ds.reverse vs.reverse
  | [], _, h => by unfold RepL at h; subst h; exact .nil
  | _ :: _, _, h => by
    unfold RepL at h
    obtain ⟨v, r, rfl, h1, h2⟩ := h
    simp only [List.reverse_cons]
    exact RepL.append (RepL.reverse h2) (.cons h1 .nil)
theorem RepL.rep {ds : List D} {vs : List V} (h : RepL K Γ H ds vs) : ∀ k : Nat, RepL K Γ H (List.replicate k ds).flatten (List.replicate k vs).flatten
  | 0 => .nil
  | k + 1 => by
    simp only [List.replicate_succ, List.flatten_cons]
    exact RepL.append h (RepL.rep h k)
end

/-! ### slots -/
def SRel (K : PySem.W.Frag) (Γ : Gm) (H : Hp) (i : Nat) : SV → Option (Option V) → Prop
  | .un, _ => True
  | .val d, o => ∃ v, o = some (some v) ∧ Rep K Γ H d v
  | .own ds, o => ∃ p vs, o = some (some (.ref p)) ∧ H p = some (.lst vs) ∧ Γ.own p = some i ∧ RepL K Γ H ds vs
structure R (K : PySem.W.Frag) (n : Nat) (Γ : Gm) (σ : St) (H : Hp) (e : En) : Prop where
  len : σ.length = n
  sl : ∀ i, SRel K Γ H i (e.v i) σ[i]?
  al : ∀ p, Γ.own p ≠ none → H p ≠ none
section
variable {K : PySem.W.Frag} {n : Nat} {Γ Γ' : Gm} {σ : St} {H H' : Hp} {e : En}
theorem SRel.same (s : Same H H') : ∀ {x : SV} {o : Option (Option V)} {i : Nat}, SRel K Γ H i x o → SRel K Γ H' i x o
  | .un, _, _, _ => trivial
  | .val d, _, _, ⟨v, q, h⟩ => ⟨v, q, h.same s⟩
  | .own ds, _, _, ⟨p, vs, q, hp, ho, h⟩ => ⟨p, vs, q, s _ _ hp, ho, h.same s⟩
theorem al_same (s : Same H H') (al : ∀ p, Γ.own p ≠ none → H p ≠ none) : ∀ p, Γ.own p ≠ none → H' p ≠ none := fun p h => by
  cases q : H p with
  | none => exact absurd q (al p h)
  | some o => rw [s _ _ q]; exact fun z => nomatch z
theorem R.same (r : R K n Γ σ H e) (s : Same H H') : R K n Γ σ H' e := ⟨r.len, fun i => (r.sl i).same s, al_same s r.al⟩
theorem R.get (r : R K n Γ σ H e) {i : Nat} {d : D} (h : e.v i = .val d) : ∃ v, σ[i]? = some (some v) ∧ Rep K Γ H d v := by
  have q := r.sl i
  rw [h] at q
  exact q
theorem R.getO (r : R K n Γ σ H e) {i : Nat} {ds : List D} (h : e.v i = .own ds) : ∃ p vs, σ[i]? = some (some (.ref p)) ∧ H p = some (.lst vs) ∧ Γ.own p = some i ∧ RepL K Γ H ds vs := by
  have q := r.sl i
  rw [h] at q
  exact q
theorem R.set (r : R K n Γ σ H e) {i : Nat} (hi : i < n) {d : D} {v : V} (h : Rep K Γ H d v) : R K n Γ (σ.set i (some v)) H (e.set i (.val d)) := by
  refine ⟨by rw [List.length_set]; exact r.len, fun j => ?_, r.al⟩
  rw [En.set_v]
  by_cases hj : j = i
  · subst hj
    rw [if_pos rfl, List.getElem?_set_self (by rw [r.len]; exact hi)]
    exact ⟨v, rfl, h⟩
  · rw [if_neg hj, List.getElem?_set_ne (Ne.symm hj)]
    exact r.sl j
theorem R.setUn (r : R K n Γ σ H e) {i : Nat} (o : Option V) : R K n Γ (σ.set i o) H (e.set i .un) := by
  refine ⟨by rw [List.length_set]; exact r.len, fun j => ?_, r.al⟩
  rw [En.set_v]
  by_cases hj : j = i
  · subst hj
    rw [if_pos rfl]
    trivial
  · rw [if_neg hj, List.getElem?_set_ne (Ne.symm hj)]
    exact r.sl j
theorem SRel.marked {p : Addr} {k : Nat} (hp : H p = none) : ∀ {x : SV} {o : Option (Option V)} {i : Nat}, SRel K Γ H i x o → SRel K (Γ.mark p k) H i x o
  | .un, _, _, _ => trivial
  | .val d, _, _, ⟨v, q, h⟩ => ⟨v, q, h.marked hp⟩
  | .own ds, _, _, ⟨a, vs, q, ha, ho, h⟩ => ⟨a, vs, q, ha, by
      show (if a = p then some k else Γ.own a) = _
      rw [if_neg (ne_of_none ha hp)]; exact ho, h.marked hp⟩
/-- a free place is marked, the heap grows over it -/
theorem R.marked (r : R K n Γ σ H e) {p : Addr} {k : Nat} (hp : H p = none) (s : Same H H') {o : HO} (h' : H' p = some o) : R K n (Γ.mark p k) σ H' e :=
  ⟨r.len, fun i => ((r.sl i).marked hp).same s, fun a h => by
    by_cases ha : a = p
    · subst ha; rw [h']; exact fun z => nomatch z
    · have h2 : Γ.own a ≠ none := by
        intro z; apply h
        show (if a = p then some k else Γ.own a) = none
        rw [if_neg ha]; exact z
      exact al_same s r.al a h2⟩
/-- a marked list that is no slot's own is written -/
theorem R.wr (r : R K n Γ σ H e) {p : Addr} {ws vs' : List V} {k : Nat} (hp : Γ.own p = some k) (hk : ∀ ds, e.v k ≠ .own ds) (hl : H p = some (.lst ws)) : R K n Γ σ (upd H p (.lst vs')) e := by
  have hn : Γ.own p ≠ none := by rw [hp]; exact fun z => nomatch z
  refine ⟨r.len, fun i => ?_, fun a h => ?_⟩
  · have q := r.sl i
    cases hx : e.v i with
    | un => trivial
    | val d =>
      rw [hx] at q
      obtain ⟨v, q1, q2⟩ := q
      exact ⟨v, q1, q2.wr hn hl⟩
    | own ds =>
      rw [hx] at q
      obtain ⟨a, vs, q1, q2, q3, q4⟩ := q
      refine ⟨a, vs, q1, ?_, q3, q4.wr hn hl⟩
      rw [upd_ne ?_]
      · exact q2
      · intro z
        rw [z, hp] at q3
        cases q3
        exact hk ds hx
  · by_cases ha : a = p
    · subst ha; rw [upd_same]; exact fun z => nomatch z
    · rw [upd_ne ha]; exact r.al a h
/-- a slot's own list is written -/
theorem R.wrOwn (r : R K n Γ σ H e) {i : Nat} {p : Addr} {ws vs' : List V} {ds' : List D} (hi : i < n) (hp : Γ.own p = some i) (hs : σ[i]? = some (some (.ref p))) (hl : H p = some (.lst ws)) (h : RepL K Γ H ds' vs') :
    R K n Γ σ (upd H p (.lst vs')) (e.set i (.own ds')) := by
  have hn : Γ.own p ≠ none := by rw [hp]; exact fun z => nomatch z
  refine ⟨r.len, fun j => ?_, fun a h => ?_⟩
  · rw [En.set_v]
    by_cases hj : j = i
    · subst hj
      rw [if_pos rfl]
      exact ⟨p, vs', hs, upd_same, hp, h.wr hn hl⟩
    · rw [if_neg hj]
      have q := r.sl j
      cases hx : e.v j with
      | un => trivial
      | val d =>
        rw [hx] at q
        obtain ⟨v, q1, q2⟩ := q
        exact ⟨v, q1, q2.wr hn hl⟩
      | own ds =>
        rw [hx] at q
        obtain ⟨a, vs, q1, q2, q3, q4⟩ := q
        refine ⟨a, vs, q1, ?_, q3, q4.wr hn hl⟩
        rw [upd_ne ?_]
        · exact q2
        · intro z
          rw [z, hp] at q3
          cases q3
          exact hj rfl
  · by_cases ha : a = p
    · subst ha; rw [upd_same]; exact fun z => nomatch z
    · rw [upd_ne ha]; exact r.al a h
theorem SRel.weak (l : Γ'.Le Γ) (ho : ∀ p, Γ.own p = some i → Γ'.own p = some i) : ∀ {x : SV} {o : Option (Option V)}, SRel K Γ H i x o → SRel K Γ' H i x o
  | .un, _, _ => trivial
  | .val d, _, ⟨v, q, h⟩ => ⟨v, q, h.weak l⟩
  | .own ds, _, ⟨a, vs, q, ha, hw, h⟩ => ⟨a, vs, q, ha, ho a hw, h.weak l⟩
/-- a slot's own list is given free -/
def En.frz (e : En) (i : Nat) : En := match e.v i with
  | .own ds => e.set i (.val (.lst ds))
  | _ => e
theorem R.frz (r : R K n Γ σ H e) {i : Nat} {ds : List D} (h : e.v i = .own ds) : ∃ Γ', Γ'.om = Γ.om ∧ (∀ p k, Γ'.own p = some k → Γ.own p = some k) ∧ (∀ a, Γ.own a ≠ none → Γ'.own a = none → Γ.own a = some i) ∧ R K n Γ' σ H (e.set i (.val (.lst ds))) := by
  obtain ⟨p, vs, q1, q2, q3, q4⟩ := r.getO h
  refine ⟨Γ.free p, rfl, fun a k ha => ?_, fun a h1 h2 => ?_, ⟨r.len, fun j => ?_, fun a ha => ?_⟩⟩
  · unfold Gm.free at ha; dsimp only at ha
    split at ha
    · cases ha
    · exact ha
  · unfold Gm.free at h2; dsimp only at h2
    split at h2
    · rename_i z; rw [z]; exact q3
    · exact absurd h2 h1
  · rw [En.set_v]
    by_cases hj : j = i
    · subst hj
      rw [if_pos rfl]
      refine ⟨_, q1, ?_⟩
      unfold Rep
      exact ⟨p, vs, rfl, q2, by unfold Gm.free; dsimp only; rw [if_pos rfl], q4.weak (Γ.free_le p)⟩
    · rw [if_neg hj]
      refine (r.sl j).weak (Γ.free_le p) fun a ha => ?_
      unfold Gm.free; dsimp only
      rw [if_neg (fun z => ?_)]
      · exact ha
      · rw [z, q3] at ha; cases ha; exact hj rfl
  · refine r.al a fun z => ha ?_
    unfold Gm.free; dsimp only
    split
    · rfl
    · exact z
end
end G
set_option Elab.async false
set_option linter.all false
set_option maxRecDepth 100000
set_option maxHeartbeats 4000000
namespace G
open PySem PySem.Spec PyProof.Rows L2

/-- room for what compares -/
structure Rm (A : Around) : Prop where
  un : A.units + 100 < cLine
theorem Rm.units {A : Around} (r : Rm A) : A.units + 64 < cLine := by have := r.un; omega
theorem _root_.L2.Room.rm {k : Nat} {A : Around} (r : Room k A) : Rm A := ⟨by have := r.un; omega⟩
theorem _root_.L2H.RoomH.rm {k : Nat} {A : Around} (r : L2H.RoomH k A) : Rm A := ⟨by have := r.un; omega⟩
/-! ### what is wanted of an outcome -/
section
variable {ca : Nat → Addr} {W : WX} {σ : St} {H H1 : Hp} {α β : Type}
def Out (ca : Nat → Addr) (W : WX) (σ : St) (H : Hp) (P : α → Hp → Prop) : Rz α → Prop
  | .ok a => ∀ H', Same H H' → P a H'
  | .exc c => ∀ H', Same H H' → W (.ref (ca c)) none σ H'
  | .bad => False
theorem Out.grow {P : α → Hp → Prop} (s : Same H H1) : ∀ {o : Rz α}, Out ca W σ H P o → Out ca W σ H1 P o
  | .ok _, h => fun H' s' => h H' (s.trans s')
  | .exc _, h => fun H' s' => h H' (s.trans s')
  | .bad, h => h
theorem Out.imp {P P' : α → Hp → Prop} : ∀ {o : Rz α}, Out ca W σ H P o → (∀ a H', Same H H' → P a H' → P' a H') → Out ca W σ H P' o
  | .ok a, h, k => fun H' s => k a H' s (h H' s)
  | .exc _, h, _ => h
  | .bad, h, _ => h
theorem Out.bind {P : β → Hp → Prop} {k : α → Rz β} : ∀ {o : Rz α}, Out ca W σ H P (o.bind k) → Out ca W σ H (fun a H' => Out ca W σ H' P (k a)) o
  | .ok _, h => fun _ s => Out.grow s h
  | .exc _, h => h
  | .bad, h => h
theorem Out.ofO {P : α → Hp → Prop} : ∀ {o : Option α}, Out ca W σ H P (Rz.ofO o) → ∃ a, o = some a ∧ ∀ H', Same H H' → P a H'
  | some a, h => ⟨a, rfl, h⟩
  | none, h => h.elim
end

def gmb (b : Bool) (Γ : Gm) : Gm := match b with
  | true => Γ
  | false => Γ.bare
theorem gmb_le (b : Bool) (Γ : Gm) : (gmb b Γ).Le Γ := by
  cases b
  · exact Γ.bare_le
  · exact .refl Γ
theorem gmb_al {b : Bool} {Γ : Gm} {H : Hp} (h : ∀ p, Γ.own p ≠ none → H p ≠ none) : ∀ p, (gmb b Γ).own p ≠ none → H p ≠ none := fun p hp => by
  cases b
  · exact absurd rfl hp
  · exact h p hp

def evs : List (En → Rz D) → En → Rz (List D)
  | [], _ => .ok []
  | f :: fs, e => (f e).bind fun d => (evs fs e).bind fun ds => .ok (d :: ds)
theorem evs_len : ∀ {fs : List (En → Rz D)} {e : En} {ds : List D}, evs fs e = .ok ds → ds.length = fs.length
  | [], _, _, h => by cases h; rfl
  | f :: fs, e, ds, h => by
    unfold evs at h
    cases hf : f e with
    | ok d =>
      rw [hf, Rz.bind_ok] at h
      cases hr : evs fs e with
      | ok r =>
        rw [hr, Rz.bind_ok] at h
        cases h
        simp [evs_len hr]
      | exc c => rw [hr] at h; cases h
      | bad => rw [hr] at h; cases h
    | exc c => rw [hf] at h; cases h
    | bad => rw [hf] at h; cases h

section
variable (K : PySem.W.Frag) (n : Nat) (ca : Nat → Addr) (W : WX)
def tOf (b : Bool) (f : En → Rz D) : TE := fun σ H Q => ∃ Γ e, R K n Γ σ H e ∧ Out ca W σ H (fun d H' => ∀ v, Rep K (gmb b Γ) H' d v → Q v H') (f e)
def cOf (f : En → Rz Bool) : TT := fun σ H Q => ∃ Γ e, R K n Γ σ H e ∧ Out ca W σ H (fun c H' => Q c H') (f e)
def aOf (b : Bool) (fs : List (En → Rz D)) : TA := fun σ H Q => ∃ Γ e, R K n Γ σ H e ∧ Out ca W σ H (fun ds H' => ∀ vs, RepL K (gmb b Γ) H' ds vs → Q vs H') (evs fs e)
def lOf (f : En → Rz (List D)) : TE := fun σ H Q => ∃ Γ e, R K n Γ σ H e ∧ Out ca W σ H (fun ds H' => ∀ p vs, H p = none → H' p = some (.lst vs) → RepL K (Γ.mark p n) H' ds vs → Q (.ref p) H') (f e)
end
theorem pe_imp {X : Cx} {e : Expr} {t t' : TE} (h : PE X e t) (k : ∀ σ H Q, t' σ H Q → t σ H Q) : PE X e t' := ⟨fun pins s σ H Q I h' => h.run pins s σ H Q I (k _ _ _ h')⟩
theorem pt_imp {X : Cx} {e : Expr} {t t' : TT} (h : PT X e t) (k : ∀ σ H Q, t' σ H Q → t σ H Q) : PT X e t' := ⟨fun pins s σ H Q I h' => h.run pins s σ H Q I (k _ _ _ h')⟩
theorem pw_imp {X : Cx} {e : Expr} {t t' : TT} (h : PW X e t) (k : ∀ σ H Q, t' σ H Q → t σ H Q) : PW X e t' := ⟨fun whole pins s σ H Q I h' => h.run whole pins s σ H Q I (k _ _ _ h')⟩
theorem pa_imp {X : Cx} {es : List Expr} {t t' : TA} (h : PA X es t) (k : ∀ σ H Q, t' σ H Q → t σ H Q) : PA X es t' := ⟨fun pos pins s σ H Q I h' => h.run pos pins s σ H Q I (k _ _ _ h')⟩
theorem ps_imp {X : Cx} {st : Stmt} {t t' : TS} (h : PS X st t) (k : ∀ E σ H, t' E σ H → t E σ H) : PS X st t' := ⟨fun pins s σ H E I h' => h.run pins s σ H E I (k _ _ _ h')⟩
theorem pss_imp {X : Cx} {st : List Stmt} {t t' : TS} (h : PSs X st t) (k : ∀ E σ H, t' E σ H → t E σ H) : PSs X st t' := ⟨fun pins s σ H E I h' => h.run pins s σ H E I (k _ _ _ h')⟩

abbrev DE (b : Bool) (ca : Nat → Addr) (W : WX) (X : Cx) (e : Expr) (f : En → Rz D) : Prop := PE X e (tOf X.K X.N.length ca W b f)
abbrev DT (ca : Nat → Addr) (W : WX) (X : Cx) (e : Expr) (f : En → Rz Bool) : Prop := PT X e (cOf X.K X.N.length ca W f)
abbrev DW (ca : Nat → Addr) (W : WX) (X : Cx) (e : Expr) (f : En → Rz Bool) : Prop := PW X e (cOf X.K X.N.length ca W f)
abbrev DA (b : Bool) (ca : Nat → Addr) (W : WX) (X : Cx) (es : List Expr) (fs : List (En → Rz D)) : Prop := PA X es (aOf X.K X.N.length ca W b fs)
abbrev DL (ca : Nat → Addr) (W : WX) (X : Cx) (e : Expr) (f : En → Rz (List D)) : Prop := PE X e (lOf X.K X.N.length ca W f)

section
variable {X : Cx} {ca : Nat → Addr} {W : WX} {b : Bool}

/-! ### names, constants -/
def eVar (i : Nat) : En → Rz D := fun e => match e.v i with
  | .val d => .ok d
  | _ => .bad
def eBor (i : Nat) : En → Rz D := fun e => match e.v i with
  | .val d => .ok d
  | .own ds => .ok (.lst ds)
  | .un => .bad
def eC (d : D) : En → Rz D := fun _ => .ok d
theorem de_var (i : Nat) {x : Str} {pos : Pos} (hN : X.N[i]? = some x := by rfl) (hv : Vis X.env.scope x := by first | exact Or.inl rfl | exact Or.inr (Or.inl rfl) | exact Or.inr (Or.inr rfl)) (hd : (x == ("__debug__" : Str)) = false := by decide) (hcd : (x == ("__classdict__" : Str)) = false := by decide) :
    DE b ca W X (.Name x pos) (eVar i) := by
  refine pe_imp (pe_var hN hv hd hcd) fun σ H Q ⟨Γ, e, r, h⟩ => ?_
  unfold eVar at h
  cases q : e.v i with
  | un => rw [q] at h; exact h.elim
  | own ds => rw [q] at h; exact h.elim
  | val d =>
    rw [q] at h
    obtain ⟨v, e1, rp⟩ := r.get q
    exact ⟨v, e1, h H (Same.refl H) v (rp.weak (gmb_le b Γ))⟩
theorem de_bor (i : Nat) {x : Str} {pos : Pos} (hN : X.N[i]? = some x := by rfl) (hv : Vis X.env.scope x := by first | exact Or.inl rfl | exact Or.inr (Or.inl rfl) | exact Or.inr (Or.inr rfl)) (hd : (x == ("__debug__" : Str)) = false := by decide) (hcd : (x == ("__classdict__" : Str)) = false := by decide) :
    DE false ca W X (.Name x pos) (eBor i) := by
  refine pe_imp (pe_var hN hv hd hcd) fun σ H Q ⟨Γ, e, r, h⟩ => ?_
  unfold eBor at h
  cases q : e.v i with
  | un => rw [q] at h; exact h.elim
  | own ds =>
    rw [q] at h
    obtain ⟨p, vs, e1, e2, e3, rp⟩ := r.getO q
    refine ⟨_, e1, h H (Same.refl H) _ ?_⟩
    unfold Rep
    exact ⟨p, vs, rfl, e2, rfl, rp.weak (gmb_le false Γ)⟩
  | val d =>
    rw [q] at h
    obtain ⟨v, e1, rp⟩ := r.get q
    exact ⟨v, e1, h H (Same.refl H) v (rp.weak (gmb_le false Γ))⟩
theorem de_int {i : Int} {j pos} : DE b ca W X (.Constant (.int i) j pos) (eC (.int i)) :=
  pe_imp pe_int fun σ H Q ⟨Γ, e, r, h⟩ => h H (Same.refl H) _ (by unfold Rep; rfl)
theorem de_bl {c j pos} : DE b ca W X (.Constant (.bool c) j pos) (eC (.bl c)) :=
  pe_imp pe_bl fun σ H Q ⟨Γ, e, r, h⟩ => h H (Same.refl H) _ (by unfold Rep; rfl)
theorem de_non {j pos} : DE b ca W X (.Constant .none j pos) (eC .non) :=
  pe_imp pe_non fun σ H Q ⟨Γ, e, r, h⟩ => h H (Same.refl H) _ (by unfold Rep; rfl)
theorem de_str {x : Str} {j pos} : DE b ca W X (.Constant (.str x) j pos) (eC (.str x)) :=
  pe_imp pe_str fun σ H Q ⟨Γ, e, r, h⟩ => h H (Same.refl H) _ (by unfold Rep; rfl)
/-- a module's int -/
theorem de_globI {x : Str} {i : Int} {t : Tok} {pos : Pos} (hg : Gl X x) (hm : X.mg x = some (.int i t)) (hd : (x == ("__debug__" : Str)) = false := by decide) : DE b ca W X (.Name x pos) (eC (.int i)) :=
  pe_imp (pe_glob (v := .int i) hg hm ⟨t, rfl⟩ hd) fun σ H Q ⟨Γ, e, r, h⟩ => h H (Same.refl H) _ (by unfold Rep; rfl)
theorem de_globS {x : Str} {z : Str} {t : Tok} {pos : Pos} (hg : Gl X x) (hm : X.mg x = some (.str z t)) (hd : (x == ("__debug__" : Str)) = false := by decide) : DE b ca W X (.Name x pos) (eC (.str z)) :=
  pe_imp (pe_glob (v := .str z) hg hm ⟨t, rfl⟩ hd) fun σ H Q ⟨Γ, e, r, h⟩ => h H (Same.refl H) _ (by unfold Rep; rfl)
/-- borrowed, without lists: a value -/
def eNl (f : En → Rz D) : En → Rz D := fun e => (f e).bind fun d => if d.nol = true then .ok d else .bad
theorem de_up {e : Expr} {f : En → Rz D} (h : DE false ca W X e f) : DE b ca W X e (eNl f) := by
  refine pe_imp h fun σ H Q ⟨Γ, e, r, h⟩ => ⟨Γ, e, r, h.bind.imp fun d H' s k v rp => ?_⟩
  by_cases hn : d.nol = true
  · rw [if_pos hn] at k
    exact k H' (Same.refl _) v (rp.any (by cases b <;> exact fun _ _ h => h) hn)
  · rw [if_neg hn] at k
    exact k.elim
theorem de_down {e : Expr} {f : En → Rz D} (h : DE true ca W X e f) : DE false ca W X e f :=
  pe_imp h fun σ H Q ⟨Γ, e, r, h⟩ => ⟨Γ, e, r, h.imp fun d H' s k v rp => k v (rp.weak Γ.bare_le)⟩

/-! ### operators by values -/
def OpD (K : PySem.W.Frag) (r : R2) (g : D → D → Option D) : Prop := ∀ (Γ : Gm) (H : Hp) (x y : V) (dx dy d : D) (Q : VK), (∀ p, Γ.own p ≠ none → H p ≠ none) → Rep K Γ H dx x → Rep K Γ H dy y → g dx dy = some d → (∀ v H', Same H H' → Rep K Γ H' d v → Q v H') → r x y H Q
def eBin (g : D → D → Option D) (fa fb : En → Rz D) : En → Rz D := fun e => (fa e).bind fun x => (fb e).bind fun y => Rz.ofO (g x y)
theorem bin_tOf {r : R2} {g : D → D → Option D} {fa fb : En → Rz D} {K : PySem.W.Frag} {n : Nat} (c : OpD K r g) {σ : St} {H : Hp} {Q : VK} (h : tOf K n ca W b (eBin g fa fb) σ H Q) : tOp r (tOf K n ca W b fa) (tOf K n ca W b fb) σ H Q := by
  obtain ⟨Γ, e, rr, h⟩ := h
  refine ⟨Γ, e, rr, h.bind.imp fun dx H1 s1 k1 x rx => ?_⟩
  refine ⟨Γ, e, rr.same s1, k1.bind.imp fun dy H2 s2 k2 y ry => ?_⟩
  obtain ⟨d, hd, k⟩ := k2.ofO
  exact c (gmb b Γ) H2 x y dx dy d Q (gmb_al (rr.same (s1.trans s2)).al) (rx.same s2) ry hd fun v H' s rv => k H' s v rv
theorem de_bin {op : Operator} {r : R2} {g : D → D → Option D} {a c : Expr} {fa fb : En → Rz D} {pos : Pos} (ho : OpR X (binaryOp op) r) (k : OpD X.K r g) (ha : DE b ca W X a fa) (hb : DE b ca W X c fb) : DE b ca W X (.BinOp a op c pos) (eBin g fa fb) :=
  pe_imp (pe_op ho ha hb) fun σ H Q h => bin_tOf k h
theorem de_cmp {op : CmpOp} {r : R2} {g : D → D → Option D} {a c : Expr} {fa fb : En → Rz D} {pos : Pos} (ho : OpR X (compareOp op) r) (k : OpD X.K r g) (ha : DE b ca W X a fa) (hb : DE b ca W X c fb) (hm : behindInMarks op c = false) : DE b ca W X (.Compare a [op] [c] pos) (eBin g fa fb) :=
  pe_imp (pe_cmpR ho ha hb hm) fun σ H Q h => bin_tOf k h
/-- a value that is a bool, as a test -/
def toB : D → Rz Bool
  | .bl c => .ok c
  | _ => .bad
def cB (f : En → Rz D) : En → Rz Bool := fun e => (f e).bind toB
theorem rep_bl {K : PySem.W.Frag} {Γ : Gm} {H : Hp} {c : Bool} {v : V} (h : Rep K Γ H (.bl c) v) : v = .bl c := by unfold Rep at h; exact h
theorem rep_int {K : PySem.W.Frag} {Γ : Gm} {H : Hp} {c : Int} {v : V} (h : Rep K Γ H (.int c) v) : v = .int c := by unfold Rep at h; exact h
theorem rep_str {K : PySem.W.Frag} {Γ : Gm} {H : Hp} {c : Str} {v : V} (h : Rep K Γ H (.str c) v) : v = .str c := by unfold Rep at h; exact h
theorem rep_non {K : PySem.W.Frag} {Γ : Gm} {H : Hp} {v : V} (h : Rep K Γ H .non v) : v = .non := by unfold Rep at h; exact h
theorem Rep.bl {K : PySem.W.Frag} {Γ : Gm} {H : Hp} {c : Bool} : Rep K Γ H (.bl c) (.bl c) := by unfold Rep; rfl
theorem Rep.int {K : PySem.W.Frag} {Γ : Gm} {H : Hp} {c : Int} : Rep K Γ H (.int c) (.int c) := by unfold Rep; rfl
theorem Rep.str {K : PySem.W.Frag} {Γ : Gm} {H : Hp} {c : Str} : Rep K Γ H (.str c) (.str c) := by unfold Rep; rfl
theorem Rep.non {K : PySem.W.Frag} {Γ : Gm} {H : Hp} : Rep K Γ H .non .non := by unfold Rep; rfl
theorem test_cOf {K : PySem.W.Frag} {n : Nat} {f : En → Rz D} {σ : St} {H : Hp} {Q : Bool → Hp → Prop} (h : cOf K n ca W (cB f) σ H Q) : tOf K n ca W b f σ H fun x H' => ∃ k, x = .bl k ∧ Q k H' := by
  obtain ⟨Γ, e, r, h⟩ := h
  refine ⟨Γ, e, r, h.bind.imp fun d H1 s k v rv => ?_⟩
  cases d with
  | bl c => exact ⟨c, rep_bl rv, k H1 (Same.refl _)⟩
  | _ => exact k.elim
theorem dt_val {e : Expr} {f : En → Rz D} (h : DE b ca W X e f) (he : ∀ whole, isTrue e X.env whole = (do let v ← whole; standAt e.pos; holding [v] (truthy v)) := by intro _; rfl) : DT ca W X e (cB f) :=
  pt_imp (pt_val h he) fun σ H Q h => test_cOf h
theorem dt_cmp {op : CmpOp} {r : R2} {g : D → D → Option D} {a c : Expr} {fa fb : En → Rz D} {pos : Pos} (ho : OpR X (compareOp op) r) (k : OpD X.K r g) (ha : DE b ca W X a fa) (hb : DE b ca W X c fb) (hm : behindInMarks op c = false) : DT ca W X (.Compare a [op] [c] pos) (cB (eBin g fa fb)) := by
  refine pt_imp (pt_cmpR ho ha hb hm) fun σ H Q h => ?_
  exact bin_tOf k (test_cOf (b := b) h)
/-! ### truth -/
def trD : D → Rz Bool
  | .non => .ok false
  | .bl c => .ok c
  | .int i => .ok (i != 0)
  | .str x => if x.length ≤ sizeLine then .ok ((x.length : Int) != 0) else .bad
  | .tup ds => .ok (!ds.isEmpty)
  | .lst ds => .ok (!ds.isEmpty)
  | .scr ns => .ok (!ns.isEmpty)
  | .ntup ds => .ok (!ds.isEmpty)
  | _ => .bad
def cTr (f : En → Rz D) : En → Rz Bool := fun e => (f e).bind trD
theorem isEmpty_len {α β : Type} {xs : List α} {ys : List β} (h : xs.length = ys.length) : (!xs.isEmpty) = !ys.isEmpty := by
  cases xs <;> cases ys <;> first | rfl | simp at h
theorem scr_sql {K : PySem.W.Frag} {Γ : Gm} {H : Hp} {a : Addr} {xs : List V} (h : ScrAt K Γ H a xs) : SqL K H a xs := by
  rcases h with ⟨h, _⟩ | h
  · exact .inl h
  · exact .inr h
theorem dt_truth {e : Expr} {f : En → Rz D} (h : DE b ca W X e f) (he : ∀ whole, isTrue e X.env whole = (do let v ← whole; standAt e.pos; holding [v] (truthy v)) := by intro _; rfl) : DT ca W X e (cTr f) := by
  refine pt_imp (pt_truth h he) fun σ H Q ⟨Γ, e, r, h⟩ => ⟨Γ, e, r, h.bind.imp fun d H1 s k v rv => ?_⟩
  cases d with
  | non => cases rep_non rv; exact ⟨false, rfl, k H1 (Same.refl _)⟩
  | bl c => cases rep_bl rv; exact ⟨c, rfl, k H1 (Same.refl _)⟩
  | int i => cases rep_int rv; exact ⟨_, rfl, k H1 (Same.refl _)⟩
  | str x =>
    cases rep_str rv
    have k : Out ca W σ H1 (fun c H' => Q c H') (if x.length ≤ sizeLine then Rz.ok ((x.length : Int) != 0) else Rz.bad) := k
    by_cases hx : x.length ≤ sizeLine
    · rw [if_pos hx] at k
      exact ⟨_, ⟨hx, rfl⟩, k H1 (Same.refl _)⟩
    · rw [if_neg hx] at k; exact k.elim
  | tup ds =>
    unfold Rep at rv
    obtain ⟨a, vs, rfl, q, t⟩ := rv
    exact ⟨_, .inr (.inl ⟨vs, q, (isEmpty_len t.length).symm⟩), k H1 (Same.refl _)⟩
  | lst ds =>
    unfold Rep at rv
    obtain ⟨a, vs, rfl, q, _, t⟩ := rv
    exact ⟨_, .inl ⟨vs, SqL.of q, (isEmpty_len t.length).symm⟩, k H1 (Same.refl _)⟩
  | scr ns =>
    unfold Rep at rv
    obtain ⟨a, rfl, q⟩ := rv
    exact ⟨_, .inl ⟨_, scr_sql q, (isEmpty_len (by simp)).symm⟩, k H1 (Same.refl _)⟩
  | ntup ds =>
    unfold Rep at rv
    obtain ⟨a, vs, rfl, ⟨o, q, _⟩, t⟩ := rv
    exact ⟨_, .inr (.inl ⟨vs, .inl (.inr ⟨o, q⟩), (isEmpty_len t.length).symm⟩), k H1 (Same.refl _)⟩
  | obj _ => exact k.elim
  | adr _ => exact k.elim
  | dic _ _ => exact k.elim
/-! ### and, or, not, if else -/
def cAnd (f g : En → Rz Bool) : En → Rz Bool := fun e => (f e).bind fun c => if c = true then g e else .ok false
def cOr (f g : En → Rz Bool) : En → Rz Bool := fun e => (f e).bind fun c => if c = true then .ok true else g e
def cNot (f : En → Rz Bool) : En → Rz Bool := fun e => (f e).bind fun c => .ok (!c)
theorem dw_and1 {a : Expr} {f : En → Rz Bool} {pos : Pos} (h : DT ca W X a f) : DW ca W X (.BoolOp .And [a] pos) f := pw_and1 h
theorem dw_or1 {a : Expr} {f : En → Rz Bool} {pos : Pos} (h : DT ca W X a f) : DW ca W X (.BoolOp .Or [a] pos) f := pw_or1 h
theorem dw_and {a c : Expr} {rest : List Expr} {f g : En → Rz Bool} {pos : Pos} (h : DT ca W X a f) (k : DW ca W X (.BoolOp .And (c :: rest) pos) g) : DW ca W X (.BoolOp .And (a :: c :: rest) pos) (cAnd f g) := by
  refine pw_imp (pw_and h k) fun σ H Q ⟨Γ, e, r, h⟩ => ⟨Γ, e, r, h.bind.imp fun c H1 s k => ?_⟩
  cases c with
  | true => exact ⟨Γ, e, r.same s, k⟩
  | false => exact k H1 (Same.refl _)
theorem dw_or {a c : Expr} {rest : List Expr} {f g : En → Rz Bool} {pos : Pos} (h : DT ca W X a f) (k : DW ca W X (.BoolOp .Or (c :: rest) pos) g) : DW ca W X (.BoolOp .Or (a :: c :: rest) pos) (cOr f g) := by
  refine pw_imp (pw_or h k) fun σ H Q ⟨Γ, e, r, h⟩ => ⟨Γ, e, r, h.bind.imp fun c H1 s k => ?_⟩
  cases c with
  | true => exact k H1 (Same.refl _)
  | false => exact ⟨Γ, e, r.same s, k⟩
theorem dt_w {e : Expr} {f : En → Rz Bool} (h : DW ca W X e f) : DT ca W X e f := PW.pt h
theorem dt_not {a : Expr} {f : En → Rz Bool} {pos : Pos} (h : DT ca W X a f) : DT ca W X (.UnaryOp .Not a pos) (cNot f) :=
  pt_imp (pt_not h) fun σ H Q ⟨Γ, e, r, h⟩ => ⟨Γ, e, r, h.bind.imp fun c H1 s k => k H1 (Same.refl _)⟩
def eAnd (f g : En → Rz D) : En → Rz D := fun e => (f e).bind fun d => (toB d).bind fun c => if c = true then g e else .ok (.bl false)
def eOr (f g : En → Rz D) : En → Rz D := fun e => (f e).bind fun d => (toB d).bind fun c => if c = true then .ok (.bl true) else g e
def eNot (f : En → Rz D) : En → Rz D := fun e => (f e).bind fun d => (toB d).bind fun c => .ok (.bl (!c))
def eIf (c : En → Rz Bool) (f g : En → Rz D) : En → Rz D := fun e => (c e).bind fun k => if k = true then f e else g e
theorem de_one {a : Expr} {op} {f : En → Rz D} {pos : Pos} (h : DE b ca W X a f) : DE b ca W X (.BoolOp op [a] pos) f := pe_one h
theorem de_and {a c : Expr} {rest : List Expr} {f g : En → Rz D} {pos : Pos} (h : DE b ca W X a f) (k : DE b ca W X (.BoolOp .And (c :: rest) pos) g) : DE b ca W X (.BoolOp .And (a :: c :: rest) pos) (eAnd f g) := by
  refine pe_imp (pe_and h k) fun σ H Q ⟨Γ, e, r, h⟩ => ⟨Γ, e, r, h.bind.imp fun d H1 s k v rv => ?_⟩
  cases d with
  | bl c =>
    refine ⟨c, rep_bl rv, ?_⟩
    cases c with
    | true => exact ⟨Γ, e, r.same s, k⟩
    | false => exact k H1 (Same.refl _) _ .bl
  | _ => exact k.elim
theorem de_or {a c : Expr} {rest : List Expr} {f g : En → Rz D} {pos : Pos} (h : DE b ca W X a f) (k : DE b ca W X (.BoolOp .Or (c :: rest) pos) g) : DE b ca W X (.BoolOp .Or (a :: c :: rest) pos) (eOr f g) := by
  refine pe_imp (pe_or h k) fun σ H Q ⟨Γ, e, r, h⟩ => ⟨Γ, e, r, h.bind.imp fun d H1 s k v rv => ?_⟩
  cases d with
  | bl c =>
    refine ⟨c, rep_bl rv, ?_⟩
    cases c with
    | true => exact k H1 (Same.refl _) _ .bl
    | false => exact ⟨Γ, e, r.same s, k⟩
  | _ => exact k.elim
theorem de_not {a : Expr} {f : En → Rz D} {pos : Pos} (h : DE b ca W X a f) : DE b ca W X (.UnaryOp .Not a pos) (eNot f) := by
  refine pe_imp (pe_not h) fun σ H Q ⟨Γ, e, r, h⟩ => ⟨Γ, e, r, h.bind.imp fun d H1 s k v rv => ?_⟩
  cases d with
  | bl c => exact ⟨c, rep_bl rv, k H1 (Same.refl _) _ .bl⟩
  | _ => exact k.elim
theorem de_if {c a a' : Expr} {fc : En → Rz Bool} {f g : En → Rz D} {pos : Pos} (hc : DT ca W X c fc) (h : DE b ca W X a f) (k : DE b ca W X a' g) : DE b ca W X (.IfExp c a a' pos) (eIf fc f g) := by
  refine pe_imp (pe_ifExp hc h k) fun σ H Q ⟨Γ, e, r, h⟩ => ⟨Γ, e, r, h.bind.imp fun c H1 s k => ?_⟩
  cases c with
  | true => exact ⟨Γ, e, r.same s, k⟩
  | false => exact ⟨Γ, e, r.same s, k⟩
/-! ### a < b < c -/
def eCh (g g' : D → D → Option D) (fa fb fc : En → Rz D) : En → Rz D := fun e => (fa e).bind fun x => (fb e).bind fun y => (Rz.ofO (g x y)).bind fun z => (toB z).bind fun k => if k = true then (fc e).bind fun u => Rz.ofO (g' y u) else .ok (.bl false)

/-! ### argument lists, displays -/
theorem da_nil : DA b ca W X [] [] := pa_imp pa_nil fun σ H Q ⟨Γ, e, r, h⟩ => h H (Same.refl _) [] .nil
theorem da_cons {a : Expr} {es : List Expr} {f : En → Rz D} {fs : List (En → Rz D)} (h : DE b ca W X a f) (k : DA b ca W X es fs) (hs : starEach (a :: es) X.env = (false, eval a X.env) :: starEach es X.env := by rfl) : DA b ca W X (a :: es) (f :: fs) := by
  refine pa_imp (pa_cons h k hs) fun σ H Q ⟨Γ, e, r, h⟩ => ⟨Γ, e, r, h.bind.imp fun d H1 s k v rv => ⟨Γ, e, r.same s, k.bind.imp fun ds H2 s2 k2 vs rvs => ?_⟩⟩
  exact k2 H2 (Same.refl _) (v :: vs) (.cons (rv.same s2) rvs)
def eTup (fs : List (En → Rz D)) : En → Rz D := fun e => (evs fs e).bind fun ds => .ok (.tup ds)
theorem Out.has {α : Type} {ca : Nat → Addr} {W : WX} {σ : St} {H : Hp} {P : α → Hp → Prop} : ∀ {o : Rz α}, Out ca W σ H P o → Out ca W σ H (fun a H' => o = .ok a ∧ P a H') o
  | .ok a, h => fun H' s => ⟨rfl, h H' s⟩
  | .exc _, h => h
  | .bad, h => h
theorem de_tup {es : List Expr} {fs : List (En → Rz D)} {x1} {pos : Pos} (h : DA b ca W X es fs) (hl : fs.length ≤ sizeLine := by first | decide | exact Nat.le_of_ble_eq_true rfl) : DE b ca W X (.Tuple es x1 pos) (eTup fs) := by
  refine pe_imp (pe_tup h) fun σ H Q ⟨Γ, e, r, h⟩ => ⟨Γ, e, r, h.bind.has.imp fun ds H1 s ⟨hd, k⟩ vs rvs => ?_⟩
  refine ⟨by rw [rvs.length, evs_len hd]; exact hl, fun p hp => ?_⟩
  refine k _ (same_new hp) _ ?_
  unfold Rep
  exact ⟨p, vs, rfl, SqT.of upd_same, rvs.same (same_new hp)⟩
theorem dl_lst {es : List Expr} {fs : List (En → Rz D)} {pos : Pos} (h : DA true ca W X es fs) (hl : fs.length ≤ sizeLine := by first | decide | exact Nat.le_of_ble_eq_true rfl) : DL ca W X (.List es pos) (evs fs) := by
  refine pe_imp (pe_lst h) fun σ H Q ⟨Γ, e, r, h⟩ => ⟨Γ, e, r, h.has.imp fun ds H1 s ⟨hd, k⟩ vs rvs => ?_⟩
  refine ⟨by rw [rvs.length, evs_len hd]; exact hl, fun p hp => ?_⟩
  have h0 : Out ca W σ H (fun ds H' => ∀ p vs, H p = none → H' p = some (.lst vs) → RepL X.K (Γ.mark p X.N.length) H' ds vs → Q (.ref p) H') (.ok ds) := by rw [← hd]; exact h
  exact h0 _ (s.trans (same_new hp)) p vs (s.free hp) upd_same ((rvs.marked hp).same (same_new hp))
def eL (f : En → Rz (List D)) : En → Rz D := fun e => (f e).bind fun ds => .ok (.lst ds)
theorem de_l {a : Expr} {f : En → Rz (List D)} (h : DL ca W X a f) : DE b ca W X a (eL f) := by
  refine pe_imp h fun σ H Q ⟨Γ, e, r, h⟩ => ⟨Γ, e, r, h.bind.imp fun ds H1 s k p vs hp hl rvs => ?_⟩
  refine k H1 (Same.refl _) _ ?_
  unfold Rep
  have ho : Γ.own p = none := by
    cases q : Γ.own p with
    | none => rfl
    | some i => exact absurd hp (r.al p (by rw [q]; exact fun z => nomatch z))
  exact ⟨p, vs, rfl, hl, by cases b; rfl; exact ho, (rvs.weak (Γ.le_mark p _)).weak (gmb_le b Γ)⟩

/-! ### calls of defs -/
theorem passN {X : Cx} : Passes (L2N.CX X.prog X.w) X E0 := fun _ _ _ _ _ _ _ h => by
  obtain ⟨_, _, _, _, _, _, _, _, _, _, _, _, z⟩ := h
  exact z.elim
theorem takesN {X : Cx} : L2N.Takes X (fun _ _ _ _ => False) := fun _ _ x => by
  obtain ⟨_, _, _, _, _, _, _, _, _, _, _, _, _, _, _, _, z⟩ := x
  exact z.elim
def spOf (K : PySem.W.Frag) (ca : Nat → Addr) (m : Nat) (F : List D → Rz D) : Sp := fun vs H Q E => vs.length = m ∧ ∃ Γ ds, (∀ p, Γ.own p ≠ none → H p ≠ none) ∧ RepL K Γ H ds vs ∧
  match F ds with
  | .ok d => ∀ v H', Same H H' → Rep K Γ H' d v → Q v H'
  | .exc c => ∀ H', Same H H' → E (.ref (ca c)) none H'
  | .bad => False
def eCall (F : List D → Rz D) (fs : List (En → Rz D)) : En → Rz D := fun e => (evs fs e).bind F
theorem sp_of {K : PySem.W.Frag} {m : Nat} {F : List D → Rz D} {Γ : Gm} {σ : St} {H : Hp} {Q : VK} {ds : List D} {vs : List V} (hm : ds.length = m) (al : ∀ p, Γ.own p ≠ none → H p ≠ none) (r : RepL K Γ H ds vs)
    (h : Out ca W σ H (fun d H' => ∀ v, Rep K Γ H' d v → Q v H') (F ds)) : spOf K ca m F vs H Q (WE W σ) := by
  refine ⟨by rw [r.length]; exact hm, Γ, ds, al, r, ?_⟩
  cases q : F ds with
  | ok d => rw [q] at h; exact fun v H' s rv => h H' s v rv
  | exc c => rw [q] at h; exact h
  | bad => rw [q] at h; exact h
theorem de_call {k m : Nat} {f : Addr} {fd : FuncData} {ps : List Str} {F : List D → Rz D} {x : Str} {p pos : Pos} {a : Expr} {es : List Expr} {fs : List (En → Rz D)} (FN : FnOk X.prog X.w X.K X.mg X.base (L2N.CX X.prog X.w) k f fd ps (spOf X.K ca m F)) (hr : Room k X.A) (tk : L2N.Takes X W)
    (hm : X.mg x = some (.ref f)) (hk : PySem.W.keepIn X.K (.ref f) = true) (hb : Binds X.K fd ps []) (ha : DA b ca W X (a :: es) fs) (hl : fs.length = m := by rfl) (hg : Gl X x := by rfl) (hdb : (x == ("__debug__" : Str)) = false := by decide)
    (he : starEach (a :: es) X.env = (false, eval a X.env) :: starEach es X.env := by rfl) (hpl : (backTo pos (starEach es X.env)).any (·.1) = false := by rfl) :
    DE b ca W X (.Call (.Name x p) (a :: es) [] pos) (eCall F fs) := by
  refine pe_imp (pe_callS FN hr hg hm hk hb (fun σ => L2N.passAt tk σ) ha hdb he hpl) fun σ H Q ⟨Γ, e, r, h⟩ => ⟨Γ, e, r, h.bind.has.imp fun ds H1 s ⟨hd, k⟩ vs rvs => ?_⟩
  exact sp_of (by rw [evs_len hd]; exact hl) (gmb_al (r.same s).al) rvs k
theorem de_call0 {k : Nat} {f : Addr} {fd : FuncData} {ps : List Str} {F : List D → Rz D} {x : Str} {p pos : Pos} (FN : FnOk X.prog X.w X.K X.mg X.base (L2N.CX X.prog X.w) k f fd ps (spOf X.K ca 0 F)) (hr : Room k X.A)
    (hm : X.mg x = some (.ref f)) (hk : PySem.W.keepIn X.K (.ref f) = true) (hb : Binds X.K fd ps []) (hx : ∀ c, F [] ≠ .exc c) (hg : Gl X x := by rfl) (hdb : (x == ("__debug__" : Str)) = false := by decide) :
    DE b ca W X (.Call (.Name x p) [] [] pos) (eCall F []) := by
  refine pe_imp (pe_call0 FN hr hg hm hk hb .nil passN hdb) fun σ H Q ⟨Γ, e, r, h⟩ => ?_
  refine ⟨rfl, gmb b Γ, [], gmb_al r.al, .nil, ?_⟩
  have h : Out ca W σ H (fun d H' => ∀ v, Rep X.K (gmb b Γ) H' d v → Q v H') (F []) := h
  cases q : F [] with
  | ok d => rw [q] at h; exact fun v H' s rv => h H' s v rv
  | exc c => exact absurd q (hx c)
  | bad => rw [q] at h; exact h
end
end G
set_option Elab.async false
set_option linter.all false
set_option maxRecDepth 100000
set_option maxHeartbeats 4000000
namespace G
open PySem PySem.Spec PyProof.Rows L2

/-! ### statements -/
structure Fm where
  J : (Nat → Option Addr) → List Ob → Hp → Prop
  av : Addr → Prop
  grow : ∀ o s H H', J o s H → Same H H' → J o s H'
  ind : ∀ o s H p, J o s H → H p = none → ∀ o s H2 ws vs, J o s H2 → H2 p = some (.lst ws) → J o s (upd H2 p (.lst vs))
def Fm.Ind (Φ : Fm) (p : Addr) : Prop := ∀ o s H2 ws vs, Φ.J o s H2 → H2 p = some (.lst ws) → Φ.J o s (upd H2 p (.lst vs))
structure RS (K : PySem.W.Frag) (n : Nat) (Φ : Fm) (Γ : Gm) (σ : St) (H : Hp) (e : En) : Prop where
  r : R K n Γ σ H e
  j : Φ.J Γ.om e.s H
  ow : ∀ p i, Γ.own p = some i → i < n → Φ.Ind p
  av : ∀ p, Φ.av p → ∃ i, Γ.own p = some i ∧ n ≤ i
/-- what stood stands -/
def Evo (K : PySem.W.Frag) (Γ : Gm) (H : Hp) (Γ' : Gm) (H' : Hp) : Prop := ∀ d v, Rep K Γ H d v → Rep K Γ' H' d v
theorem Evo.refl {K : PySem.W.Frag} {Γ : Gm} {H : Hp} : Evo K Γ H Γ H := fun _ _ h => h
theorem Evo.trans {K : PySem.W.Frag} {Γ Γ1 Γ2 : Gm} {H H1 H2 : Hp} (a : Evo K Γ H Γ1 H1) (b : Evo K Γ1 H1 Γ2 H2) : Evo K Γ H Γ2 H2 := fun d v h => b d v (a d v h)
theorem Evo.same {K : PySem.W.Frag} {Γ : Gm} {H H' : Hp} (s : Same H H') : Evo K Γ H Γ H' := fun _ _ h => h.same s
theorem Evo.marked {K : PySem.W.Frag} {Γ : Gm} {H H' : Hp} {p : Addr} {i : Nat} (hp : H p = none) (s : Same H H') : Evo K Γ H (Γ.mark p i) H' := fun _ _ h => (h.marked hp).same s
theorem Evo.wr {K : PySem.W.Frag} {Γ : Gm} {H : Hp} {p : Addr} {ws vs : List V} (hp : Γ.own p ≠ none) (hl : H p = some (.lst ws)) : Evo K Γ H Γ (upd H p (.lst vs)) := fun _ _ h => h.wr hp hl
theorem Evo.le {K : PySem.W.Frag} {Γ Γ' : Gm} {H : Hp} (l : Γ'.Le Γ) : Evo K Γ H Γ' H := fun _ _ h => h.weak l

def sOut (K : PySem.W.Frag) (n : Nat) (ca : Nat → Addr) (W : WX) (Φ : Fm) (E : Ends) (Γ₀ : Gm) (H₀ : Hp) : SR → Prop
  | .next e => ∀ Γ σ H, RS K n Φ Γ σ H e → Evo K Γ₀ H₀ Γ H → E.nx σ H
  | .brk e => ∀ Γ σ H, RS K n Φ Γ σ H e → Evo K Γ₀ H₀ Γ H → E.bk σ H
  | .cont e => ∀ Γ σ H, RS K n Φ Γ σ H e → Evo K Γ₀ H₀ Γ H → E.ct σ H
  | .ret d e => ∀ Γ H v, Φ.J Γ.om e.s H → (∀ p, Φ.av p → Γ.own p ≠ none) → Rep K Γ H d v → E.rt v H
  | .exc c e => ∀ Γ σ H, RS K n Φ Γ σ H e → Evo K Γ₀ H₀ Γ H → W (.ref (ca c)) none σ H
  | .bad => False
def sOf (K : PySem.W.Frag) (n : Nat) (ca : Nat → Addr) (W : WX) (Φ : Fm) (g : En → SR) : TS := fun E σ H => ∃ Γ e, RS K n Φ Γ σ H e ∧ sOut K n ca W Φ E Γ H (g e)
abbrev DS (ca : Nat → Addr) (W : WX) (Φ : Fm) (X : Cx) (st : Stmt) (g : En → SR) : Prop := PS X st (sOf X.K X.N.length ca W Φ g)
abbrev DSs (ca : Nat → Addr) (W : WX) (Φ : Fm) (X : Cx) (sts : List Stmt) (g : En → SR) : Prop := PSs X sts (sOf X.K X.N.length ca W Φ g)
section
variable {K : PySem.W.Frag} {n : Nat} {Φ : Fm} {Γ Γ' : Gm} {σ : St} {H H' : Hp} {e : En} {ca : Nat → Addr} {W : WX} {E E' : Ends}
theorem sOut.on (v : Evo K Γ H Γ' H') : ∀ {r : SR}, sOut K n ca W Φ E Γ H r → sOut K n ca W Φ E Γ' H' r
  | .next _, h => fun Γ2 σ2 H2 r2 v2 => h Γ2 σ2 H2 r2 (v.trans v2)
  | .brk _, h => fun Γ2 σ2 H2 r2 v2 => h Γ2 σ2 H2 r2 (v.trans v2)
  | .cont _, h => fun Γ2 σ2 H2 r2 v2 => h Γ2 σ2 H2 r2 (v.trans v2)
  | .exc _ _, h => fun Γ2 σ2 H2 r2 v2 => h Γ2 σ2 H2 r2 (v.trans v2)
  | .ret _ _, h => h
  | .bad, h => h
theorem RS.same (r : RS K n Φ Γ σ H e) (s : Same H H') : RS K n Φ Γ σ H' e := ⟨r.r.same s, Φ.grow _ _ _ _ r.j s, r.ow, r.av⟩
theorem RS.set (r : RS K n Φ Γ σ H e) {i : Nat} (hi : i < n) {d : D} {v : V} (h : Rep K Γ H d v) : RS K n Φ Γ (σ.set i (some v)) H (e.set i (.val d)) := ⟨r.r.set hi h, r.j, r.ow, r.av⟩
theorem RS.avn (r : RS K n Φ Γ σ H e) : ∀ p, Φ.av p → Γ.own p ≠ none := fun p h => by
  obtain ⟨i, q, _⟩ := r.av p h
  rw [q]; exact fun z => nomatch z
/-- a new list is marked for somebody (k) -/
theorem RS.marked (r : RS K n Φ Γ σ H e) {k : Nat} {p : Addr} {o : HO} (hp : H p = none) (s : Same H H') (hl : H' p = some o) : RS K n Φ (Γ.mark p k) σ H' e := by
  refine ⟨r.r.marked hp s hl, Φ.grow _ _ _ _ r.j s, fun q j hq hj => ?_, fun q hq => ?_⟩
  · by_cases hqp : q = p
    · subst hqp; exact Φ.ind _ _ _ _ r.j hp
    · unfold Gm.mark at hq; dsimp only at hq; rw [if_neg hqp] at hq
      exact r.ow q j hq hj
  · obtain ⟨j, h1, h2⟩ := r.av q hq
    refine ⟨j, ?_, h2⟩
    unfold Gm.mark; dsimp only
    rw [if_neg (fun z => ?_)]
    · exact h1
    · subst z
      exact r.r.al q (by rw [h1]; exact fun z => nomatch z) hp
/-- a marked list that is nobody's becomes slot i's own -/
theorem RS.take (r : RS K n Φ Γ σ H e) {i k : Nat} (hi : i < n) {p : Addr} {vs : List V} {ds : List D} (hk : Γ.own p = some k) (hn : n ≤ k) (hav : ¬ Φ.av p) (hin : Φ.Ind p) (hl : H p = some (.lst vs)) (h : RepL K Γ H ds vs) :
    RS K n Φ (Γ.mark p i) (σ.set i (some (.ref p))) H (e.set i (.own ds)) := by
  have le : (Γ.mark p i).Le Γ := ⟨fun a q => by
    unfold Gm.mark; dsimp only
    split
    · rename_i z; rw [z, hk] at q; cases q
    · exact q, fun _ _ q => q⟩
  refine ⟨⟨by rw [List.length_set]; exact r.r.len, fun j => ?_, fun q hq => ?_⟩, r.j, fun q j hq hj => ?_, fun q hq => ?_⟩
  · rw [En.set_v]
    by_cases hj : j = i
    · subst hj
      rw [if_pos rfl, List.getElem?_set_self (by rw [r.r.len]; exact hi)]
      exact ⟨p, vs, rfl, hl, by unfold Gm.mark; dsimp only; rw [if_pos rfl], h.weak le⟩
    · rw [if_neg hj, List.getElem?_set_ne (Ne.symm hj)]
      have q := r.r.sl j
      cases hx : e.v j with
      | un => trivial
      | val d =>
        rw [hx] at q
        obtain ⟨v, q1, q2⟩ := q
        exact ⟨v, q1, q2.weak le⟩
      | own ds' =>
        rw [hx] at q
        obtain ⟨a, us, q1, q2, q3, q4⟩ := q
        refine ⟨a, us, q1, q2, ?_, q4.weak le⟩
        unfold Gm.mark; dsimp only
        rw [if_neg (fun z => ?_)]
        · exact q3
        · rw [z, hk] at q3; cases q3
          have := r.r.len
          by_cases hjn : k < n
          · omega
          · rw [List.getElem?_eq_none (by omega)] at q1; cases q1
  · by_cases hqp : q = p
    · subst hqp; rw [hl]; exact fun z => nomatch z
    · unfold Gm.mark at hq; dsimp only at hq; rw [if_neg hqp] at hq
      exact r.r.al q hq
  · by_cases hqp : q = p
    · subst hqp; exact hin
    · unfold Gm.mark at hq; dsimp only at hq; rw [if_neg hqp] at hq
      exact r.ow q j hq hj
  · obtain ⟨j, h1, h2⟩ := r.av q hq
    refine ⟨j, ?_, h2⟩
    unfold Gm.mark; dsimp only
    rw [if_neg (fun z => ?_)]
    · exact h1
    · subst z; exact hav hq
theorem le_mark_mark {Γ : Gm} {p : Addr} {i k : Nat} : (Γ.mark p i).Le (Γ.mark p k) := ⟨fun a q => by
    unfold Gm.mark at q ⊢; dsimp only at q ⊢
    split at q
    · cases q
    · rename_i ha; rw [if_neg ha]; exact q, fun _ _ q => q⟩
theorem mark_mark {Γ : Gm} {p : Addr} {i k : Nat} : (Γ.mark p k).mark p i = Γ.mark p i := by
  unfold Gm.mark
  congr 1
  funext a
  dsimp only
  split <;> rfl
theorem mark_self {Γ : Gm} {p : Addr} {k : Nat} : (Γ.mark p k).own p = some k := by
  unfold Gm.mark; dsimp only; rw [if_pos rfl]
theorem RS.noav (r : RS K n Φ Γ σ H e) {p : Addr} (hp : H p = none) : ¬ Φ.av p := fun h => r.r.al p (r.avn p h) hp
/-- a new list becomes slot i's own -/
theorem RS.setL (r : RS K n Φ Γ σ H e) {i : Nat} (hi : i < n) {p : Addr} {vs : List V} {ds : List D} (hp : H p = none) (s : Same H H') (hl : H' p = some (.lst vs)) (h : RepL K (Γ.mark p n) H' ds vs) :
    RS K n Φ (Γ.mark p i) (σ.set i (some (.ref p))) H' (e.set i (.own ds)) := by
  have q := (r.marked (k := n) hp s hl).take hi mark_self (Nat.le_refl n) (r.noav hp) (Φ.ind _ _ _ _ r.j hp) hl h
  rw [mark_mark] at q
  exact q
/-- slot i's own list is written -/
theorem RS.wrOwn (r : RS K n Φ Γ σ H e) {i : Nat} {p : Addr} {ws vs' : List V} {ds' : List D} (hi : i < n) (hp : Γ.own p = some i) (hs : σ[i]? = some (some (.ref p))) (hl : H p = some (.lst ws)) (h : RepL K Γ H ds' vs') :
    RS K n Φ Γ σ (upd H p (.lst vs')) (e.set i (.own ds')) := ⟨r.r.wrOwn hi hp hs hl h, r.ow p i hp hi _ _ _ _ _ r.j hl, r.ow, r.av⟩
theorem RS.frz (r : RS K n Φ Γ σ H e) (i : Nat) (hi : i < n) : ∃ Γ', Evo K Γ H Γ' H ∧ RS K n Φ Γ' σ H (e.frz i) := by
  unfold En.frz
  cases q : e.v i with
  | un => exact ⟨Γ, .refl, r⟩
  | val d => exact ⟨Γ, .refl, r⟩
  | own ds =>
    obtain ⟨Γ', om, k, m, r'⟩ := r.r.frz q
    refine ⟨Γ', .le ⟨fun a z => ?_, fun n a z => by rw [om]; exact z⟩, ⟨r', by rw [om]; exact r.j, fun p j hp hj => r.ow p j (k p j hp) hj, fun p hp => ?_⟩⟩
    · cases w : Γ'.own a with
      | none => rfl
      | some j => have := k a j w; rw [z] at this; cases this
    · obtain ⟨j, h1, h2⟩ := r.av p hp
      cases w : Γ'.own p with
      | none =>
        have := m p (by rw [h1]; exact fun z => nomatch z) w
        rw [h1] at this; cases this; omega
      | some j' =>
        have := k p j' w
        rw [h1] at this; cases this
        exact ⟨j, rfl, h2⟩
end
def onR {α : Type} (o : Rz α) (e : En) (g : α → SR) : SR := match o with
  | .ok a => g a
  | .exc c => .exc c e
  | .bad => .bad
@[simp] theorem onR_ok {α : Type} (a : α) (e : En) (g : α → SR) : onR (.ok a) e g = g a := (rfl)
@[simp] theorem onR_exc {α : Type} (c : Nat) (e : En) (g : α → SR) : onR (.exc c) e g = .exc c e := (rfl)
@[simp] theorem onR_bad {α : Type} (e : En) (g : α → SR) : onR .bad e g = .bad := (rfl)
/-- expression outcomes at a statement -/
theorem RS.out {K : PySem.W.Frag} {n : Nat} {Φ : Fm} {Γ : Gm} {σ : St} {H : Hp} {e : En} {ca : Nat → Addr} {W : WX} {E : Ends} {α : Type} {P : α → Hp → Prop} {o : Rz α} {g : α → SR} (r : RS K n Φ Γ σ H e) (h : sOut K n ca W Φ E Γ H (onR o e g))
    (k : ∀ a H', Same H H' → RS K n Φ Γ σ H' e → sOut K n ca W Φ E Γ H' (g a) → P a H') : Out ca W σ H P o := by
  cases o with
  | ok a => exact fun H' s => k a H' s (r.same s) (sOut.on (.same s) h)
  | exc c => exact fun H' s => h Γ σ H' (r.same s) (.same s)
  | bad => exact h
def sSeq (g h : En → SR) : En → SR := fun e => match g e with
  | .next e' => h e'
  | r => r
section
variable {X : Cx} {ca : Nat → Addr} {W : WX} {Φ : Fm}
theorem dss_nil : DSs ca W Φ X [] SR.next := pss_imp pss_nil fun E σ H ⟨Γ, e, r, h⟩ => h Γ σ H r .refl
theorem dss_cons {st : Stmt} {sts : List Stmt} {g h : En → SR} (a : DS ca W Φ X st g) (b : DSs ca W Φ X sts h) : DSs ca W Φ X (st :: sts) (sSeq g h) := by
  refine pss_imp (pss_cons a b) fun E σ H ⟨Γ, e, r, k⟩ => ⟨Γ, e, r, ?_⟩
  unfold sSeq at k
  cases q : g e with
  | next e' => rw [q] at k; exact fun Γ' σ' H' r' v => ⟨Γ', e', r', k.on v⟩
  | ret d e' => rw [q] at k; exact k
  | brk e' => rw [q] at k; exact k
  | cont e' => rw [q] at k; exact k
  | exc c e' => rw [q] at k; exact k
  | bad => rw [q] at k; exact k
theorem dss_one {st : Stmt} {g : En → SR} (a : DS ca W Φ X st g) : DSs ca W Φ X [st] g := pss_one a
/-- slot i is given free ahead -/
def sFrz (i : Nat) (g : En → SR) : En → SR := fun e => g (e.frz i)
theorem dss_frz (i : Nat) {sts : List Stmt} {g : En → SR} (a : DSs ca W Φ X sts g) (hi : decide (i < X.N.length) = true := by rfl) : DSs ca W Φ X sts (sFrz i g) := by
  refine pss_imp a fun E σ H ⟨Γ, e, r, k⟩ => ?_
  obtain ⟨Γ', v, r'⟩ := r.frz i (of_decide_eq_true hi)
  exact ⟨Γ', _, r', k.on v⟩
def sSet (i : Nat) (f : En → Rz D) : En → SR := fun e => onR (f e) e fun d => .next (e.set i (.val d))
def sOwn (i : Nat) (f : En → Rz (List D)) : En → SR := fun e => onR (f e) e fun ds => .next (e.set i (.own ds))
theorem gt_len {N : List Str} {i : Nat} {x : Str} (h : N[i]? = some x) : i < N.length := by
  by_cases hi : i < N.length
  · exact hi
  · rw [List.getElem?_eq_none (by omega)] at h; cases h
theorem ds_set {i : Nat} {x : Str} {a : Expr} {f : En → Rz D} {pos pos' : Pos} (h : DE true ca W X a f) (hN : X.N.Nodup) (hi : X.N[i]? = some x := by rfl) (hx : Loc X.env.scope x := by first | exact Or.inl rfl | exact Or.inr rfl) (hs : swapsWith a (some (.Name x pos')) pos.line X.env = pure false := by rfl)
    (hf : X.fn x = true ∨ X.env.scope.names.lookup x = some .local := by first | exact .inl rfl | exact .inr rfl | assumption) : DS ca W Φ X (.Assign [.Name x pos'] a pos) (sSet i f) := by
  refine ps_imp (ps_set hN hi hx h hs hf) fun E σ H ⟨Γ, e, r, k⟩ => ⟨Γ, e, r.r, r.out k fun d H' s r' k v rv => ?_⟩
  exact k Γ _ H' (r'.set (gt_len hi) rv) .refl
theorem ds_own {i : Nat} {x : Str} {a : Expr} {f : En → Rz (List D)} {pos pos' : Pos} (h : DL ca W X a f) (hN : X.N.Nodup) (hi : X.N[i]? = some x := by rfl) (hx : Loc X.env.scope x := by first | exact Or.inl rfl | exact Or.inr rfl) (hs : swapsWith a (some (.Name x pos')) pos.line X.env = pure false := by rfl)
    (hf : X.fn x = true ∨ X.env.scope.names.lookup x = some .local := by first | exact .inl rfl | exact .inr rfl | assumption) : DS ca W Φ X (.Assign [.Name x pos'] a pos) (sOwn i f) := by
  refine ps_imp (ps_set hN hi hx h hs hf) fun E σ H ⟨Γ, e, r, k⟩ => ⟨Γ, e, r.r, ?_⟩
  have k : sOut X.K X.N.length ca W Φ E Γ H (onR (f e) e fun ds => .next (e.set i (.own ds))) := k
  cases q : f e with
  | ok ds =>
    rw [q] at k
    exact fun H' s p vs hp hl rv => k _ _ H' (r.setL (gt_len hi) hp s hl rv) (.marked hp s)
  | exc c => rw [q] at k; exact fun H' s => k Γ σ H' (r.same s) (.same s)
  | bad => rw [q] at k; exact k
def sRet (f : En → Rz D) : En → SR := fun e => onR (f e) e fun d => .ret d e
theorem ds_ret {a : Expr} {f : En → Rz D} {pos : Pos} (h : DE true ca W X a f) : DS ca W Φ X (.Return (some a) pos) (sRet f) :=
  ps_imp (ps_ret h) fun E σ H ⟨Γ, e, r, k⟩ => ⟨Γ, e, r.r, r.out k fun d H' s r' k v rv => k Γ H' v r'.j r'.avn rv⟩
theorem ds_retN {pos : Pos} : DS ca W Φ X (.Return none pos) (fun e => .ret .non e) :=
  ps_imp ps_retN fun E σ H ⟨Γ, e, r, k⟩ => k Γ H _ r.j r.avn .non
def sDrop (f : En → Rz D) : En → SR := fun e => onR (f e) e fun _ => .next e
theorem ds_expr {b : Bool} {a : Expr} {f : En → Rz D} {pos : Pos} (h : DE b ca W X a f) (hs : swapsWith a none pos.line X.env = pure false := by rfl) : DS ca W Φ X (.Expr a pos) (sDrop f) :=
  ps_imp (ps_expr h hs) fun E σ H ⟨Γ, e, r, k⟩ => ⟨Γ, e, r.r, r.out k fun d H' s r' k v rv => k Γ σ H' r' .refl⟩
theorem ds_pass {pos : Pos} : DS ca W Φ X (.Pass pos) SR.next := ps_imp ps_pass fun E σ H ⟨Γ, e, r, h⟩ => h Γ σ H r .refl
theorem ds_break {pos : Pos} : DS ca W Φ X (.Break pos) SR.brk := ps_imp ps_break fun E σ H ⟨Γ, e, r, h⟩ => h Γ σ H r .refl
theorem ds_continue {pos : Pos} : DS ca W Φ X (.Continue pos) SR.cont := ps_imp ps_continue fun E σ H ⟨Γ, e, r, h⟩ => h Γ σ H r .refl
theorem ds_doc {x j pos pos'} : DS ca W Φ X (.Expr (.Constant (.str x) j pos) pos') SR.next := ps_imp ps_doc fun E σ H ⟨Γ, e, r, h⟩ => h Γ σ H r .refl
def sIf (c : En → Rz Bool) (g h : En → SR) : En → SR := fun e => onR (c e) e fun k => if k = true then g e else h e
theorem ds_if {c : Expr} {a b : List Stmt} {fc : En → Rz Bool} {g h : En → SR} {pos : Pos} (hc : DT ca W X c fc) (ha : DSs ca W Φ X a g) (hb : DSs ca W Φ X b h) : DS ca W Φ X (.If c a b pos) (sIf fc g h) := by
  refine ps_imp (ps_if hc ha hb) fun E σ H ⟨Γ, e, r, k⟩ => ⟨Γ, e, r.r, r.out k fun c H' s r' k => ?_⟩
  cases c with
  | true => exact ⟨Γ, e, r', k⟩
  | false => exact ⟨Γ, e, r', k⟩

/-! ### targets -/
inductive Pat where
  | nm (i : Nat) | tp (ps : List Pat)
mutual
def Pat.bindD : Pat → D → Option (List (Nat × D))
  | .nm i, d => some [(i, d)]
  | .tp ps, .tup ds => Pat.bindL ps ds
  | .tp _, _ => none
def Pat.bindL : List Pat → List D → Option (List (Nat × D))
  | [], [] => some []
  | p :: ps, d :: ds => (p.bindD d).bind fun a => (Pat.bindL ps ds).bind fun b => some (a ++ b)
  | [], _ :: _ => none
  | _ :: _, [] => none
end
mutual
def Pat.slots : Pat → List Nat
  | .nm i => [i]
  | .tp ps => Pat.slotsL ps
def Pat.slotsL : List Pat → List Nat
  | [] => []
  | p :: ps => p.slots ++ Pat.slotsL ps
end
mutual
theorem Pat.bind_slots : ∀ {p : Pat} {d : D} {l : List (Nat × D)}, p.bindD d = some l → l.map (·.1) = p.slots
  | .nm i, d, l, h => by unfold Pat.bindD at h; cases h; rfl
  | .tp ps, .tup ds, l, h => by
    unfold Pat.bindD at h
    unfold Pat.slots
    exact Pat.bindL_slots h
  | .tp _, .non, _, h => by unfold Pat.bindD at h; cases h
  | .tp _, .bl _, _, h => by unfold Pat.bindD at h; cases h
  | .tp _, .int _, _, h => by unfold Pat.bindD at h; cases h
  | .tp _, .str _, _, h => by unfold Pat.bindD at h; cases h
  | .tp _, .lst _, _, h => by unfold Pat.bindD at h; cases h
  | .tp _, .scr _, _, h => by unfold Pat.bindD at h; cases h
  | .tp _, .obj _, _, h => by unfold Pat.bindD at h; cases h
  | .tp _, .ntup _, _, h => by unfold Pat.bindD at h; cases h
  | .tp _, .adr _, _, h => by unfold Pat.bindD at h; cases h
  | .tp _, .dic _ _, _, h => by unfold Pat.bindD at h; cases h
theorem Pat.bindL_slots : ∀ {ps : List Pat} {ds : List D} {l : List (Nat × D)}, Pat.bindL ps ds = some l → l.map (·.1) = Pat.slotsL ps
  | [], [], l, h => by unfold Pat.bindL at h; cases h; rfl
  | [], _ :: _, _, h => by unfold Pat.bindL at h; cases h
  | _ :: _, [], _, h => by unfold Pat.bindL at h; cases h
  | p :: ps, d :: ds, l, h => by
    unfold Pat.bindL at h
    cases q : p.bindD d with
    | none => rw [q] at h; cases h
    | some a =>
      cases q2 : Pat.bindL ps ds with
      | none => rw [q, q2] at h; cases h
      | some b =>
        rw [q, q2] at h
        cases h
        unfold Pat.slotsL
        rw [List.map_append, Pat.bind_slots q, Pat.bindL_slots q2]
end
theorem Pat.bindL_len : ∀ {ps : List Pat} {ds : List D} {l : List (Nat × D)}, Pat.bindL ps ds = some l → ds.length = ps.length
  | [], [], l, h => rfl
  | [], _ :: _, _, h => by unfold Pat.bindL at h; cases h
  | _ :: _, [], _, h => by unfold Pat.bindL at h; cases h
  | p :: ps, d :: ds, l, h => by
    unfold Pat.bindL at h
    cases q : p.bindD d with
    | none => rw [q] at h; cases h
    | some a =>
      cases q2 : Pat.bindL ps ds with
      | none => rw [q, q2] at h; cases h
      | some b => simp [Pat.bindL_len q2]
def En.sets : En → List (Nat × D) → En
  | e, [] => e
  | e, p :: l => (e.set p.1 (.val p.2)).sets l
theorem En.sets_append : ∀ (l m : List (Nat × D)) (e : En), e.sets (l ++ m) = (e.sets l).sets m
  | [], _, _ => rfl
  | p :: l, m, e => En.sets_append l m _
theorem En.sets_s : ∀ (l : List (Nat × D)) (e : En), (e.sets l).s = e.s
  | [], _ => rfl
  | p :: l, e => En.sets_s l _
def setsV : St → List Nat → List V → St
  | σ, i :: is, v :: vs => setsV (σ.set i (some v)) is vs
  | σ, _, _ => σ
theorem setsV_append : ∀ (is : List Nat) (vs : List V) (js : List Nat) (us : List V) (σ : St), is.length = vs.length → setsV σ (is ++ js) (vs ++ us) = setsV (setsV σ is vs) js us
  | [], [], _, _, _, _ => rfl
  | [], _ :: _, _, _, _, h => by simp at h
  | _ :: _, [], _, _, _, h => by simp at h
  | i :: is, v :: vs, js, us, σ, h => setsV_append is vs js us _ (by simpa using h)
theorem R.sets {K : PySem.W.Frag} {n : Nat} {Γ : Gm} {H : Hp} : ∀ {l : List (Nat × D)} {σ : St} {e : En} {ws : List V}, R K n Γ σ H e → (∀ i ∈ l.map (·.1), i < n) → RepL K Γ H (l.map (·.2)) ws → R K n Γ (setsV σ (l.map (·.1)) ws) H (e.sets l)
  | [], σ, e, ws, r, _, h => by
    simp only [List.map_nil] at h
    unfold RepL at h
    subst h
    exact r
  | p :: l, σ, e, ws, r, hn, h => by
    simp only [List.map_cons] at h
    unfold RepL at h
    obtain ⟨v, vs, rfl, h1, h2⟩ := h
    exact R.sets (l := l) (σ := σ.set p.1 (some v)) (e := e.set p.1 (.val p.2)) (ws := vs) (r.set (hn p.1 (by simp)) h1) (fun i hi => hn i (by rw [List.map_cons]; exact List.mem_cons_of_mem _ hi)) h2
theorem wipe_set (σ : St) (i : Nat) (o : Option V) : ∀ vs : List Nat, i ∈ vs → wipe (σ.set i o) vs = wipe σ vs
  | [], h => by cases h
  | v :: vs, h => by
    unfold wipe
    by_cases hv : i ∈ vs
    · rw [wipe_set σ i o vs hv]
    · have e : i = v := by
        rcases List.mem_cons.mp h with h | h
        · exact h
        · exact absurd h hv
      subst e
      have : wipe (σ.set i o) vs = (wipe σ vs).set i o := by
        clear h
        induction vs with
        | nil => rfl
        | cons w vs ih =>
          unfold wipe
          rw [ih (fun z => hv (List.mem_cons_of_mem _ z)), List.set_comm _ _ (fun z => hv (by rw [z]; exact List.mem_cons_self))]
      rw [this, List.set_set]
theorem wipe_sets (vs : List Nat) : ∀ (is : List Nat) (us : List V) (σ : St), (∀ i ∈ is, i ∈ vs) → wipe (setsV σ is us) vs = wipe σ vs
  | [], _, _, _ => by unfold setsV; rfl
  | _ :: _, [], _, _ => by unfold setsV; rfl
  | i :: is, u :: us, σ, h => by
    show wipe (setsV (σ.set i (some u)) is us) vs = _
    rw [wipe_sets vs is us _ (fun j hj => h j (List.mem_cons_of_mem _ hj)), wipe_set σ i _ vs (h i List.mem_cons_self)]
theorem wipe_idem (σ : St) : ∀ vs : List Nat, wipe (wipe σ vs) vs = wipe σ vs := by
  intro vs
  suffices h : ∀ us : List Nat, (∀ i ∈ us, i ∈ vs) → wipe (wipe σ us) vs = wipe σ vs from h vs fun _ h => h
  intro us
  induction us with
  | nil => intro _; rfl
  | cons u us ih =>
    intro h
    show wipe ((wipe σ us).set u none) vs = _
    rw [wipe_set _ _ _ vs (h u List.mem_cons_self), ih (fun i hi => h i (List.mem_cons_of_mem _ hi))]

def gOf (K : PySem.W.Frag) (p : Pat) : TG := fun v σ H Q => ∃ Γ d l, Rep K Γ H d v ∧ p.bindD d = some l ∧ ∀ ws, RepL K Γ H (l.map (·.2)) ws → Q (setsV σ p.slots ws) H
def gsOf (K : PySem.W.Frag) (ps : List Pat) : TGs := fun vs σ H Q => ∃ Γ ds l, RepL K Γ H ds vs ∧ Pat.bindL ps ds = some l ∧ ∀ ws, RepL K Γ H (l.map (·.2)) ws → Q (setsV σ (Pat.slotsL ps) ws) H
abbrev DG (X : Cx) (tg : Expr) (p : Pat) : Prop := PG X tg (gOf X.K p)
abbrev DGs (X : Cx) (tg : List Expr) (ps : List Pat) : Prop := PGs X tg (gsOf X.K ps)
theorem pg_imp {tg : Expr} {t t' : TG} (h : PG X tg t) (k : ∀ v σ H Q, t' v σ H Q → t v σ H Q) : PG X tg t' := ⟨fun pins s σ H v u Q I r h' => h.run pins s σ H v u Q I r (k _ _ _ _ h')⟩
theorem pgs_imp {tg : List Expr} {t t' : TGs} (h : PGs X tg t) (k : ∀ v σ H Q, t' v σ H Q → t v σ H Q) : PGs X tg t' := ⟨fun pins s σ H v u Q I r h' => h.run pins s σ H v u Q I r (k _ _ _ _ h')⟩
theorem dg_name {i : Nat} {x : Str} {pos : Pos} (hN : X.N.Nodup) (hi : X.N[i]? = some x := by rfl) (hx : Loc X.env.scope x := by first | exact Or.inl rfl | exact Or.inr rfl) (hf : X.fn x = true ∨ X.env.scope.names.lookup x = some .local := by first | exact .inl rfl | exact .inr rfl | assumption) : DG X (.Name x pos) (.nm i) := by
  refine pg_imp (pg_name hN hi hx hf) fun v σ H Q ⟨Γ, d, l, rv, he, k⟩ => ?_
  unfold Pat.bindD at he
  cases he
  exact k [v] (.cons rv .nil)
theorem dgs_nil : DGs X [] [] := by
  refine pgs_imp pgs_nil fun vs σ H Q ⟨Γ, ds, l, rv, he, k⟩ => ?_
  cases ds with
  | nil =>
    unfold Pat.bindL at he
    cases he
    unfold RepL at rv
    exact ⟨rv, k [] .nil⟩
  | cons d ds => unfold Pat.bindL at he; cases he
theorem dgs_cons {a : Expr} {es : List Expr} {p : Pat} {ps : List Pat} (h1 : DG X a p) (h2 : DGs X es ps) (hs : (assignEach (a :: es) X.env).map (·.2) = assign a X.env :: (assignEach es X.env).map (·.2) := by rfl) : DGs X (a :: es) (p :: ps) := by
  refine pgs_imp (pgs_cons h1 h2 hs) fun vs σ H Q ⟨Γ, ds, l, rv, he, k⟩ => ?_
  cases ds with
  | nil => unfold Pat.bindL at he; cases he
  | cons d ds =>
    unfold RepL at rv
    obtain ⟨v, vr, rfl, r1, r2⟩ := rv
    unfold Pat.bindL at he
    cases q : p.bindD d with
    | none => rw [q] at he; cases he
    | some a =>
      cases q2 : Pat.bindL ps ds with
      | none => rw [q, q2] at he; cases he
      | some b =>
        rw [q, q2] at he
        cases he
        refine ⟨v, vr, rfl, Γ, d, a, r1, q, fun ws hw => ⟨Γ, ds, b, r2, q2, fun us hu => ?_⟩⟩
        have := k (ws ++ us) (by rw [List.map_append]; exact hw.append hu)
        unfold Pat.slotsL at this
        rw [setsV_append _ _ _ _ _ (by rw [← Pat.bind_slots q, List.length_map, hw.length, List.length_map])] at this
        exact this
theorem dg_tup {es : List Expr} {kk m : Nat} {ps : List Pat} {pos : Pos} (hc : X.calm = true) (h : DGs X es ps) (hm : ps.length = m := by rfl) (hn : (assignEach es X.env).length = m := by rfl) (hst : (assignEach es X.env).findIdx? (·.1) = none := by rfl) : DG X (.Tuple es kk pos) (.tp ps) := by
  refine pg_imp (pg_tup hc h hn hst) fun v σ H Q ⟨Γ, d, l, rv, he, k⟩ => ?_
  cases d with
  | tup ds =>
    unfold Rep at rv
    obtain ⟨a, vs, rfl, q, t⟩ := rv
    unfold Pat.bindD at he
    unfold Pat.slots at k
    exact ⟨a, vs, rfl, q, by rw [t.length, Pat.bindL_len he, hm], Γ, ds, l, t, he, k⟩
  | _ => unfold Pat.bindD at he; cases he
theorem allB {α : Type} {p : α → Prop} [DecidablePred p] {l : List α} (h : (l.all fun i => decide (p i)) = true) : ∀ i ∈ l, p i := fun i hi => of_decide_eq_true (List.all_eq_true.mp h i hi)
def onO {α : Type} (o : Option α) (g : α → SR) : SR := match o with
  | some a => g a
  | none => .bad
@[simp] theorem onO_some {α : Type} (a : α) (g : α → SR) : onO (some a) g = g a := (rfl)
@[simp] theorem onO_none {α : Type} (g : α → SR) : onO none g = .bad := (rfl)
theorem RS.sets {K : PySem.W.Frag} {n : Nat} {Φ : Fm} {Γ : Gm} {σ : St} {H : Hp} {e : En} {p : Pat} {d : D} {l : List (Nat × D)} {ws : List V} (r : RS K n Φ Γ σ H e) (hb : p.bindD d = some l) (hn : ∀ i ∈ p.slots, i < n) (h : RepL K Γ H (l.map (·.2)) ws) : RS K n Φ Γ (setsV σ p.slots ws) H (e.sets l) := by
  rw [← Pat.bind_slots hb] at hn ⊢
  exact ⟨r.r.sets hn h, by rw [En.sets_s]; exact r.j, r.ow, r.av⟩
def sAsg (p : Pat) (f : En → Rz D) : En → SR := fun e => onR (f e) e fun d => onO (p.bindD d) fun l => .next (e.sets l)
theorem ds_asg {tg a : Expr} {p : Pat} {f : En → Rz D} {pos : Pos} (h : DE true ca W X a f) (hg : DG X tg p) (hn : (p.slots.all fun i => decide (i < X.N.length)) = true := by rfl) (hs : swapsWithSole [tg] a pos.line X.env = pure false := by rfl) (hw : swappedStores [tg] a X.env = pure none := by rfl) (h1 : (assignEach [tg] X.env).map (·.2) = [assign tg X.env] := by rfl) : DS ca W Φ X (.Assign [tg] a pos) (sAsg p f) := by
  refine ps_imp (ps_asg h hg hs hw h1) fun E σ H ⟨Γ, e, r, k⟩ => ⟨Γ, e, r.r, r.out k fun d H' s r' k v rv => ?_⟩
  cases q : p.bindD d with
  | none => rw [q] at k; exact k.elim
  | some l => rw [q] at k; exact ⟨Γ, d, l, rv, q, fun ws hws => k Γ _ H' (r'.sets q (allB hn) hws) .refl⟩

/-! ### a, b = x, y -/
def mOf (K : PySem.W.Frag) (n : Nat) (ca : Nat → Addr) (W : WX) (m : En → Rz SV) : TE := fun σ H Q => ∃ Γ e, R K n Γ σ H e ∧ Out ca W σ H (fun x H' => match x with
  | .val d => ∀ v, Rep K Γ H' d v → Q v H'
  | .own ds => ∀ p vs, H p = none → H' p = some (.lst vs) → RepL K (Γ.mark p n) H' ds vs → Q (.ref p) H'
  | .un => True) (m e)
abbrev DM (ca : Nat → Addr) (W : WX) (X : Cx) (a : Expr) (m : En → Rz SV) : Prop := PE X a (mOf X.K X.N.length ca W m)
def mVal (f : En → Rz D) : En → Rz SV := fun e => (f e).bind fun d => .ok (.val d)
def mOwn (f : En → Rz (List D)) : En → Rz SV := fun e => (f e).bind fun d => .ok (.own d)
theorem dm_val {a : Expr} {f : En → Rz D} (h : DE true ca W X a f) : DM ca W X a (mVal f) :=
  pe_imp h fun σ H Q ⟨Γ, e, r, h⟩ => ⟨Γ, e, r, h.bind.imp fun d H1 s k v rv => k H1 (Same.refl _) v rv⟩
theorem dm_own {a : Expr} {f : En → Rz (List D)} (h : DL ca W X a f) : DM ca W X a (mOwn f) :=
  pe_imp h fun σ H Q ⟨Γ, e, r, h⟩ => ⟨Γ, e, r, h.bind.imp fun d H1 s k p vs hp hl rv => k H1 (Same.refl _) p vs hp hl rv⟩
/-- what is still to be stored -/
def Pend (K : PySem.W.Frag) (n : Nat) (Φ : Fm) (Γ : Gm) (H : Hp) : SV → V → Prop
  | .val d, v => Rep K Γ H d v
  | .own ds, v => ∃ p vs k, v = .ref p ∧ H p = some (.lst vs) ∧ Γ.own p = some k ∧ n ≤ k ∧ ¬ Φ.av p ∧ Φ.Ind p ∧ RepL K Γ H ds vs
  | .un, _ => False
end
section
variable {K : PySem.W.Frag} {n : Nat} {Φ : Fm} {Γ Γ' : Gm} {σ : St} {H H' : Hp} {e : En} {ca : Nat → Addr} {W : WX} {E E' : Ends}
theorem Pend.same (s : Same H H') : ∀ {x : SV} {v : V}, Pend K n Φ Γ H x v → Pend K n Φ Γ H' x v
  | .val _, _, h => Rep.same s h
  | .own _, _, ⟨p, vs, k, q1, q2, q3, q4, q5, q6, q7⟩ => ⟨p, vs, k, q1, s _ _ q2, q3, q4, q5, q6, q7.same s⟩
  | .un, _, h => h
theorem Pend.marked {p : Addr} {i : Nat} (hp : H p = none) : ∀ {x : SV} {v : V}, Pend K n Φ Γ H x v → Pend K n Φ (Γ.mark p i) H x v
  | .val _, _, h => Rep.marked hp h
  | .own _, _, ⟨a, vs, k, q1, q2, q3, q4, q5, q6, q7⟩ => ⟨a, vs, k, q1, q2, by
      unfold Gm.mark; dsimp only
      rw [if_neg (ne_of_none q2 hp)]; exact q3, q4, q5, q6, q7.marked hp⟩
  | .un, _, h => h
/-- the next outcome of a list of them -/
theorem RS.mout {m : En → Rz SV} {g : SV → SR} {Q : VK} {ca : Nat → Addr} {W : WX} {E : Ends} (r : RS K n Φ Γ σ H e) (h : sOut K n ca W Φ E Γ H (onR (m e) e g))
    (k : ∀ x v Γ' H', RS K n Φ Γ' σ H' e → Evo K Γ H Γ' H' → (∀ y w, Pend K n Φ Γ H y w → Pend K n Φ Γ' H' y w ∧ ∀ ds ds', y = .own ds → x = .own ds' → w ≠ v) → Pend K n Φ Γ' H' x v → sOut K n ca W Φ E Γ' H' (g x) → Q v H') : mOf K n ca W m σ H Q := by
  refine ⟨Γ, e, r.r, ?_⟩
  cases q : m e with
  | ok x =>
    rw [q] at h
    intro H' s
    cases x with
    | un => trivial
    | val d => exact fun v rv => k (.val d) v Γ H' (r.same s) (.same s) (fun y w hy => ⟨hy.same s, fun _ _ _ z => nomatch z⟩) rv (sOut.on (.same s) h)
    | own ds => exact fun p vs hp hl rv => k (.own ds) (.ref p) (Γ.mark p n) H' (r.marked hp s hl) (.marked hp s) (fun y w hy => ⟨(hy.marked hp).same s, fun ds ds' e1 _ => by
      subst e1
      obtain ⟨a, us, k', z1, z2, _⟩ := hy
      rw [z1]
      exact fun z => ne_of_none z2 hp (V.ref.inj z)⟩) ⟨p, vs, n, rfl, hl, mark_self, Nat.le_refl n, r.noav hp, Φ.ind _ _ _ _ r.j hp, rv⟩ (sOut.on (.marked hp s) h)
  | exc c => rw [q] at h; exact fun H' s => h Γ σ H' (r.same s) (.same s)
  | bad => rw [q] at h; exact h
/-- one of them is stored -/
theorem RS.put (r : RS K n Φ Γ σ H e) {i : Nat} (hi : i < n) : ∀ {x : SV} {v : V}, Pend K n Φ Γ H x v → ∃ Γ', RS K n Φ Γ' (σ.set i (some v)) H (e.set i x) ∧ Evo K Γ H Γ' H ∧ (∀ y w, (∀ ds ds', y = .own ds → x = .own ds' → w ≠ v) → Pend K n Φ Γ H y w → Pend K n Φ Γ' H y w)
  | .val d, v, h => ⟨Γ, r.set hi h, .refl, fun _ _ _ h => h⟩
  | .un, _, h => h.elim
  | .own ds, v, ⟨p, vs, k, q1, q2, q3, q4, q5, q6, q7⟩ => by
    have le : (Γ.mark p i).Le Γ := ⟨fun a q => by
      unfold Gm.mark; dsimp only
      split
      · rename_i z; rw [z, q3] at q; cases q
      · exact q, fun _ _ q => q⟩
    subst q1
    refine ⟨Γ.mark p i, r.take hi q3 q4 q5 q6 q2 q7, .le le, fun y w hy h => ?_⟩
    cases y with
    | un => exact h
    | val d => exact Rep.weak le h
    | own ds' =>
      obtain ⟨a, us, k', z1, z2, z3, z4, z5, z6, z7⟩ := h
      have ne : a ≠ p := by
        intro z
        subst z z1
        rw [q2] at z2; cases z2
        exact hy ds' ds rfl rfl rfl
      refine ⟨a, us, k', z1, z2, ?_, z4, z5, z6, z7.weak le⟩
      unfold Gm.mark; dsimp only
      rw [if_neg ne]; exact z3
end
section
variable {X : Cx} {ca : Nat → Addr} {W : WX} {Φ : Fm}
def sPar2 (i j : Nat) (m1 m2 : En → Rz SV) : En → SR := fun e => onR (m1 e) e fun x => onR (m2 e) e fun y => .next ((e.set i x).set j y)
theorem ds_par2 {i j : Nat} {x y : Str} {a b : Expr} {m1 m2 : En → Rz SV} {px py pt pos : Pos} {kt k2 pt2} (hc : X.calm = true) (hN : X.N.Nodup) (ha : DM ca W X a m1) (hb : DM ca W X b m2) (hi : X.N[i]? = some x := by rfl) (hj : X.N[j]? = some y := by rfl) (hij : i ≠ j := by decide)
    (hx : X.env.scope.names.lookup x = some .local := by rfl) (hy : X.env.scope.names.lookup y = some .local := by rfl)
    (hw : swappedStores [.Tuple [.Name x px, .Name y py] kt pt] (.Tuple [a, b] k2 pt2) X.env = pure (some [x, y]) := by rfl)
    (hs : swapsWithSole [.Tuple [.Name x px, .Name y py] kt pt] (.Tuple [a, b] k2 pt2) pos.line X.env = pure false := by rfl) (hsa : starEach [a, b] X.env = (false, eval a X.env) :: starEach [b] X.env := by rfl) (hsb : starEach [b] X.env = (false, eval b X.env) :: starEach [] X.env := by rfl) :
    DS ca W Φ X (.Assign [.Tuple [.Name x px, .Name y py] kt pt] (.Tuple [a, b] k2 pt2) pos) (sPar2 i j m1 m2) := by
  refine ps_imp (ps_par hc hN hi hj hij hx hy (pa_cons ha (pa_cons hb pa_nil hsb) hsa) hw hs) fun E σ H ⟨Γ, e, r, k⟩ => ?_
  refine r.mout k fun x1 v1 Γ1 H1 r1 ev1 _ p1 k1 => r1.mout k1 fun x2 v2 Γ2 H2 r2 ev2 keep2 p2 k2 => ⟨v1, v2, rfl, ?_⟩
  obtain ⟨p1', ap⟩ := keep2 x1 v1 p1
  obtain ⟨Γ3, r3, ev3, keep3⟩ := r2.put (gt_len hi) p1'
  obtain ⟨Γ4, r4, ev4, _⟩ := r3.put (gt_len hj) (keep3 x2 v2 (fun ds ds' e1 e2 z => ap ds' ds e2 e1 z.symm) p2)
  exact k2 Γ4 _ H2 r4 (ev3.trans ev4)
def sPar3 (i j l : Nat) (m1 m2 m3 : En → Rz SV) : En → SR := fun e => onR (m1 e) e fun x => onR (m2 e) e fun y => onR (m3 e) e fun z => .next (((e.set i x).set j y).set l z)
theorem ds_par3 {i j l : Nat} {x y z : Str} {a b c : Expr} {m1 m2 m3 : En → Rz SV} {px py pz pt pos : Pos} {kt k2 pt2} (hc : X.calm = true) (hN : X.N.Nodup) (ha : DM ca W X a m1) (hb : DM ca W X b m2) (hd : DM ca W X c m3) (hi : X.N[i]? = some x := by rfl) (hj : X.N[j]? = some y := by rfl) (hl : X.N[l]? = some z := by rfl)
    (hij : i ≠ j := by decide) (hil : i ≠ l := by decide) (hjl : j ≠ l := by decide)
    (hx : X.env.scope.names.lookup x = some .local := by rfl) (hy : X.env.scope.names.lookup y = some .local := by rfl) (hz : X.env.scope.names.lookup z = some .local := by rfl)
    (hw : swappedStores [.Tuple [.Name x px, .Name y py, .Name z pz] kt pt] (.Tuple [a, b, c] k2 pt2) X.env = pure (some [x, y, z]) := by rfl)
    (hs : swapsWithSole [.Tuple [.Name x px, .Name y py, .Name z pz] kt pt] (.Tuple [a, b, c] k2 pt2) pos.line X.env = pure false := by rfl)
    (hsa : starEach [a, b, c] X.env = (false, eval a X.env) :: starEach [b, c] X.env := by rfl) (hsb : starEach [b, c] X.env = (false, eval b X.env) :: starEach [c] X.env := by rfl) (hsc : starEach [c] X.env = (false, eval c X.env) :: starEach [] X.env := by rfl) :
    DS ca W Φ X (.Assign [.Tuple [.Name x px, .Name y py, .Name z pz] kt pt] (.Tuple [a, b, c] k2 pt2) pos) (sPar3 i j l m1 m2 m3) := by
  refine ps_imp (ps_par3 hc hN hi hj hl hij hil hjl hx hy hz (pa_cons ha (pa_cons hb (pa_cons hd pa_nil hsc) hsb) hsa) hw hs) fun E σ H ⟨Γ, e, r, k⟩ => ?_
  refine r.mout k fun x1 v1 Γ1 H1 r1 ev1 _ p1 k1 => r1.mout k1 fun x2 v2 Γ2 H2 r2 ev2 keep2 p2 k2 => r2.mout k2 fun x3 v3 Γ3 H3 r3 ev3 keep3 p3 k3 => ⟨v1, v2, v3, rfl, ?_⟩
  obtain ⟨p12, a12⟩ := keep2 x1 v1 p1
  obtain ⟨p13, a13⟩ := keep3 x1 v1 p12
  obtain ⟨p23, a23⟩ := keep3 x2 v2 p2
  obtain ⟨Γ4, r4, ev4, keep4⟩ := r3.put (gt_len hi) p13
  obtain ⟨Γ5, r5, ev5, keep5⟩ := r4.put (gt_len hj) (keep4 x2 v2 (fun ds ds' e1 e2 z => a12 ds' ds e2 e1 z.symm) p23)
  obtain ⟨Γ6, r6, ev6, _⟩ := r5.put (gt_len hl) (keep5 x3 v3 (fun ds ds' e1 e2 z => a23 ds' ds e2 e1 z.symm) (keep4 x3 v3 (fun ds ds' e1 e2 z => a13 ds' ds e2 e1 z.symm) p3))
  exact k3 Γ6 _ H3 r6 ((ev4.trans ev5).trans ev6)

/-! ### what is walked -/
/-- the items ds come one by one, at whatever heap -/
def ItOk (K : PySem.W.Frag) (Γ : Gm) (H : Hp) (ds : List D) (J : It) : Prop := ∀ Γ2 H2, Evo K Γ H Γ2 H2 →
  (∀ i d, ds[i]? = some d → J.go i H2 ∧ ∀ x H3, J.yld i H2 x H3 → Same H2 H3 ∧ Rep K Γ2 H3 d x) ∧ J.stop ds.length H2
def iOf (K : PySem.W.Frag) (n : Nat) (ca : Nat → Addr) (W : WX) (f : En → Rz (List D)) : TI := fun σ H R' => ∃ Γ e, R K n Γ σ H e ∧ Out ca W σ H (fun ds H' => ∀ J, ItOk K Γ H' ds J → R' J H') (f e)
abbrev DI (ca : Nat → Addr) (W : WX) (X : Cx) (tg iter : Expr) (f : En → Rz (List D)) : Prop := PI X tg iter (iOf X.K X.N.length ca W f)
theorem pi_imp {tg iter : Expr} {w w' : TI} (h : PI X tg iter w) (k : ∀ σ H R', w' σ H R' → w σ H R') : PI X tg iter w' := ⟨fun pins s σ H R' I h' => h.run pins s σ H R' I (k _ _ _ h')⟩
def itL : D → Rz (List D)
  | .lst ds => .ok ds
  | .scr ns => .ok (ns.map D.int)
  | _ => .bad
def itT : D → Rz (List D)
  | .tup ds => .ok ds
  | _ => .bad
def iL (f : En → Rz D) : En → Rz (List D) := fun e => (f e).bind itL
def iT (f : En → Rz D) : En → Rz (List D) := fun e => (f e).bind itT
theorem di_list {tg a : Expr} {f : En → Rz D} (h : DE true ca W X a f) : DI ca W X tg a (iL f) := by
  refine pi_imp (pi_list h) fun σ H R' ⟨Γ, e, r, h⟩ => ⟨Γ, e, r, h.bind.imp fun d H1 s k v rv => ?_⟩
  cases d with
  | lst ds =>
    have rv' := rv
    unfold Rep at rv
    obtain ⟨a, vs, rfl, q, _, t⟩ := rv
    refine ⟨a, rfl, ⟨vs, SqL.of q⟩, k H1 (Same.refl _) _ fun Γ2 H2 ev => ?_⟩
    have r2 := ev _ _ rv'
    unfold Rep at r2
    obtain ⟨a', vs2, e1, q2, _, t2⟩ := r2
    cases e1
    refine ⟨fun i d hd => ?_, ⟨vs2, SqL.of q2, by rw [t2.length]; exact Nat.le_refl _⟩⟩
    obtain ⟨x, hx, rx⟩ := t2.get hd
    refine ⟨⟨vs2, x, SqL.of q2, hx⟩, fun y H3 hy => ?_⟩
    obtain ⟨rfl, hy⟩ := hy
    have := hy vs2 (SqL.of q2)
    rw [hx] at this; cases this
    exact ⟨Same.refl _, rx⟩
  | scr ns =>
    have rv' := rv
    unfold Rep at rv
    obtain ⟨a, rfl, q⟩ := rv
    refine ⟨a, rfl, ⟨_, scr_sql q⟩, k H1 (Same.refl _) _ fun Γ2 H2 ev => ?_⟩
    have r2 := ev _ _ rv'
    unfold Rep at r2
    obtain ⟨a', e1, q2⟩ := r2
    cases e1
    refine ⟨fun i d hd => ?_, ⟨_, scr_sql q2, by simp⟩⟩
    obtain ⟨x, hx, rx⟩ := (RepL.of_ints (K := X.K) (Γ := Γ2) (H := H2) ns).get hd
    refine ⟨⟨_, x, scr_sql q2, hx⟩, fun y H3 hy => ?_⟩
    obtain ⟨rfl, hy⟩ := hy
    have := hy _ (scr_sql q2)
    rw [hx] at this; cases this
    exact ⟨Same.refl _, rx⟩
  | _ => exact k.elim
theorem di_tup {tg a : Expr} {f : En → Rz D} (h : DE true ca W X a f) : DI ca W X tg a (iT f) := by
  refine pi_imp (pi_tup h) fun σ H R' ⟨Γ, e, r, h⟩ => ⟨Γ, e, r, h.bind.imp fun d H1 s k v rv => ?_⟩
  cases d with
  | tup ds =>
    have rv' := rv
    unfold Rep at rv
    obtain ⟨a, vs, rfl, q, t⟩ := rv
    refine ⟨a, rfl, ⟨vs, q⟩, k H1 (Same.refl _) _ fun Γ2 H2 ev => ?_⟩
    have r2 := ev _ _ rv'
    unfold Rep at r2
    obtain ⟨a', vs2, e1, q2, t2⟩ := r2
    cases e1
    refine ⟨fun i d hd => ?_, ⟨vs2, q2, by rw [t2.length]; exact Nat.le_refl _⟩⟩
    obtain ⟨x, hx, rx⟩ := t2.get hd
    refine ⟨⟨vs2, x, q2, hx⟩, fun y H3 hy => ?_⟩
    obtain ⟨rfl, hy⟩ := hy
    have := hy vs2 q2
    rw [hx] at this; cases this
    exact ⟨Same.refl _, rx⟩
  | _ => exact k.elim
/-- lo, lo + 1, .., n of them -/
def rngD (lo : Int) : Nat → List D
  | 0 => []
  | n + 1 => .int lo :: rngD (lo + 1) n
theorem rngD_get : ∀ (n : Nat) (lo : Int) (i : Nat) (d : D), (rngD lo n)[i]? = some d → i < n ∧ d = .int (lo + i)
  | 0, _, _, _, h => by simp [rngD] at h
  | n + 1, lo, 0, d, h => by simp [rngD] at h; subst h; exact ⟨Nat.succ_pos n, by simp⟩
  | n + 1, lo, i + 1, d, h => by
    have h : (rngD (lo + 1) n)[i]? = some d := by simpa [rngD] using h
    obtain ⟨h1, h2⟩ := rngD_get n (lo + 1) i d h
    refine ⟨by omega, ?_⟩
    rw [h2]
    congr 1
    push_cast
    omega
theorem rngD_len : ∀ (n : Nat) (lo : Int), (rngD lo n).length = n
  | 0, _ => rfl
  | n + 1, lo => by simp [rngD, rngD_len n (lo + 1)]
def rg1 : D → Rz (List D)
  | .int j => if -(2 ^ 62) ≤ j ∧ j < 2 ^ 62 then .ok (rngD 0 j.toNat) else .bad
  | _ => .bad
def rg2 : D → D → Rz (List D)
  | .int i, .int j => if -(2 ^ 62) ≤ i ∧ i < 2 ^ 62 ∧ -(2 ^ 62) ≤ j ∧ j < 2 ^ 62 then .ok (rngD i (j - i).toNat) else .bad
  | _, _ => .bad
theorem itok_rng {K : PySem.W.Frag} {Γ : Gm} {H : Hp} (lo : Int) (n : Nat) : ItOk K Γ H (rngD lo n) (Itr lo n) := fun Γ2 H2 ev => by
  refine ⟨fun i d hd => ?_, by rw [rngD_len]; exact Nat.le_refl _⟩
  obtain ⟨h1, h2⟩ := rngD_get n lo i d hd
  refine ⟨h1, fun x H3 hy => ?_⟩
  obtain ⟨rfl, rfl⟩ := hy
  subst h2
  exact ⟨Same.refl _, .int⟩
def iR1 (f : En → Rz D) : En → Rz (List D) := fun e => (f e).bind rg1
def iR2 (f g : En → Rz D) : En → Rz (List D) := fun e => (f e).bind fun x => (g e).bind fun y => rg2 x y
theorem di_range1 {tg a : Expr} {f : En → Rz D} {p pos : Pos} (hm : X.mg "range" = none) (h : DE true ca W X a f) (hg : Gl X "range" := by rfl) (hs : starEach [a] X.env = [(false, eval a X.env)] := by rfl) : DI ca W X tg (.Call (.Name "range" p) [a] [] pos) (iR1 f) := by
  refine pi_imp (pi_range1 hg hm (pa_cons h pa_nil (by rw [hs]; rfl)) hs) fun σ H R' ⟨Γ, e, r, h⟩ => ⟨Γ, e, r, h.bind.imp fun d H1 s k v rv => ?_⟩
  cases d with
  | int j =>
    cases rep_int rv
    have k : Out ca W σ H1 (fun ds H' => ∀ J, ItOk X.K Γ H' ds J → R' J H') (if -(2 ^ 62) ≤ j ∧ j < 2 ^ 62 then .ok (rngD 0 j.toNat) else .bad) := k
    by_cases hj : -(2 ^ 62) ≤ j ∧ j < 2 ^ 62
    · rw [if_pos hj] at k
      exact ⟨j, rfl, hj.1, hj.2, k H1 (Same.refl _) _ (itok_rng 0 j.toNat)⟩
    · rw [if_neg hj] at k; exact k.elim
  | _ => exact k.elim
theorem di_range2 {tg a c : Expr} {f g : En → Rz D} {p pos : Pos} (hm : X.mg "range" = none) (ha : DE true ca W X a f) (hb : DE true ca W X c g) (hg : Gl X "range" := by rfl) (hs : starEach [a, c] X.env = [(false, eval a X.env), (false, eval c X.env)] := by rfl) (hs2 : starEach [c] X.env = [(false, eval c X.env)] := by rfl) : DI ca W X tg (.Call (.Name "range" p) [a, c] [] pos) (iR2 f g) := by
  refine pi_imp (pi_range2 hg hm (pa_cons ha (pa_cons hb pa_nil (by rw [hs2]; rfl)) (by rw [hs, hs2])) hs hs2) fun σ H R' ⟨Γ, e, r, h⟩ => ⟨Γ, e, r, h.bind.imp fun d H1 s k v rv => ⟨Γ, e, r.same s, k.bind.imp fun d2 H2 s2 k2 v2 rv2 => ?_⟩⟩
  cases d with
  | int i =>
    cases d2 with
    | int j =>
      cases rep_int rv
      cases rep_int rv2
      have k2 : Out ca W σ H2 (fun ds H' => ∀ J, ItOk X.K Γ H' ds J → R' J H') (if -(2 ^ 62) ≤ i ∧ i < 2 ^ 62 ∧ -(2 ^ 62) ≤ j ∧ j < 2 ^ 62 then .ok (rngD i (j - i).toNat) else .bad) := k2
      by_cases hj : -(2 ^ 62) ≤ i ∧ i < 2 ^ 62 ∧ -(2 ^ 62) ≤ j ∧ j < 2 ^ 62
      · rw [if_pos hj] at k2
        exact ⟨i, j, rfl, hj, k2 H2 (Same.refl _) _ (itok_rng i _)⟩
      · rw [if_neg hj] at k2; exact k2.elim
    | _ => exact k2.elim
  | _ => exact k2.elim
/-! ### for -/
def forGo (p : Pat) (h : En → SR) : List D → En → SR
  | [], e => .next e
  | d :: ds, e => onO (p.bindD d) fun l => match h (e.sets l) with
    | .next e2 => forGo p h ds e2
    | .cont e2 => forGo p h ds e2
    | .brk e2 => .next e2
    | r => r
def sFor (f : En → Rz (List D)) (p : Pat) (h : En → SR) : En → SR := fun e => onR (f e) e fun ds => forGo p h ds e
theorem ds_for {tg iter : Expr} {body : List Stmt} {f : En → Rz (List D)} {p : Pat} {h : En → SR} {pos : Pos} (hp : PassesOwn (model X.prog X.w) X.A X.env X.xe) (hc : X.calm = true) (hi : DI ca W X tg iter f) (hg : DG X tg p) (hb : DSs ca W Φ X body h) (hn : (p.slots.all fun i => decide (i < X.N.length)) = true := by rfl)
    (hs : ∀ x, foldedSetIterable iter X.env x = pure x := by intro _; rfl) : DS ca W Φ X (.For tg iter body [] pos) (sFor f p h) := by
  refine ps_imp (ps_for hp hc hi hg hb hs) fun E σ H ⟨Γ, e, r, k⟩ => ⟨Γ, e, r.r, r.out k fun ds H1 s r1 k J hJ => ?_⟩
  refine ⟨fun i m σ2 H2 => ∃ Γ2 e2, RS X.K X.N.length Φ Γ2 σ2 H2 e2 ∧ Evo X.K Γ H1 Γ2 H2 ∧ i + m = ds.length ∧ sOut X.K X.N.length ca W Φ E Γ2 H2 (forGo p h (ds.drop i) e2), ⟨ds.length, Γ, e, r1, .refl, by omega, k⟩, ?_⟩
  rintro i m σ2 H2 ⟨Γ2, e2, r2, ev, hm, k2⟩
  obtain ⟨gos, stops⟩ := hJ Γ2 H2 ev
  by_cases hi : i < ds.length
  · obtain ⟨d, hd⟩ : ∃ d, ds[i]? = some d := ⟨ds[i], List.getElem?_eq_getElem hi⟩
    obtain ⟨go, yl⟩ := gos i d hd
    have hdr : ds.drop i = d :: ds.drop (i + 1) := by
      rw [List.drop_eq_getElem_cons hi]
      rw [List.getElem?_eq_getElem hi] at hd
      cases hd; rfl
    rw [hdr] at k2
    unfold forGo at k2
    refine .inr ⟨go, fun σ' H' => ∃ Γ2 e2, RS X.K X.N.length Φ Γ2 σ' H' e2 ∧ Evo X.K Γ H1 Γ2 H' ∧ sOut X.K X.N.length ca W Φ E Γ2 H' (forGo p h (ds.drop (i + 1)) e2), fun σ' H' ⟨Γ3, e3, r3, ev3, k3⟩ => ⟨m - 1, by omega, Γ3, e3, r3, ev3, by omega, k3⟩, fun x H3 hy => ?_⟩
    obtain ⟨s3, rx⟩ := yl x H3 hy
    cases q : p.bindD d with
    | none => rw [q] at k2; exact k2.elim
    | some l =>
      rw [q, onO_some] at k2
      have k3 := sOut.on (Evo.same (Γ := Γ2) s3) k2
      refine ⟨Γ2, d, l, rx, q, fun ws hws => ⟨Γ2, e2.sets l, (r2.same s3).sets q (allB hn) hws, ?_⟩⟩
      have ev2 : Evo X.K Γ H1 Γ2 H3 := ev.trans (.same s3)
      cases q2 : h (e2.sets l) with
      | next e4 => rw [q2] at k3; exact fun Γ4 σ4 H4 r4 ev4 => ⟨Γ4, e4, r4, ev2.trans ev4, k3.on ev4⟩
      | cont e4 => rw [q2] at k3; exact fun Γ4 σ4 H4 r4 ev4 => ⟨Γ4, e4, r4, ev2.trans ev4, k3.on ev4⟩
      | brk e4 => rw [q2] at k3; exact k3
      | ret d4 e4 => rw [q2] at k3; exact k3
      | exc c e4 => rw [q2] at k3; exact k3
      | bad => rw [q2] at k3; exact k3
  · have hdr : ds.drop i = [] := List.drop_eq_nil_of_le (by omega)
    rw [hdr] at k2
    have hie : i = ds.length := by omega
    subst hie
    exact .inl ⟨stops, k2 Γ2 σ2 H2 r2 .refl⟩
/-! ### comprehensions -/
abbrev W0 : WX := fun _ _ _ _ => False
def wipeE (e : En) (vs : List Nat) : En := { e with v := fun j => if j ∈ vs then .un else e.v j }
theorem R.wipe {K : PySem.W.Frag} {n : Nat} {Γ : Gm} {σ : St} {H : Hp} {e : En} (r : R K n Γ σ H e) (vs : List Nat) : R K n Γ (wipe σ vs) H (wipeE e vs) := by
  refine ⟨by rw [wipe_length]; exact r.len, fun i => ?_, r.al⟩
  unfold wipeE
  dsimp only
  by_cases hi : i ∈ vs
  · rw [if_pos hi]; trivial
  · rw [if_neg hi, wipe_out hi]; exact r.sl i
def lcGo (p : Pat) (c : En → Rz Bool) (f : En → Rz D) (e : En) : List D → Rz (List D)
  | [] => .ok []
  | d :: ds => match p.bindD d with
    | none => .bad
    | some l => match c (e.sets l) with
      | .ok true => match f (e.sets l) with
        | .ok x => (lcGo p c f e ds).bind fun xs => .ok (x :: xs)
        | _ => .bad
      | .ok false => lcGo p c f e ds
      | _ => .bad
def lim : Nat := 1000000
def eLc (fi : En → Rz (List D)) (p : Pat) (c : En → Rz Bool) (f : En → Rz D) (vs : List Nat) : En → Rz (List D) := fun e => (fi e).bind fun ds => if ds.length ≤ lim then lcGo p c f (wipeE e vs) ds else .bad
def cTrue : En → Rz Bool := fun _ => .ok true
theorem lcGo_cons {p : Pat} {c : En → Rz Bool} {f : En → Rz D} {e : En} {d : D} {ds : List D} {r : List D} (h : lcGo p c f e (d :: ds) = .ok r) : ∃ l, p.bindD d = some l ∧ ((c (e.sets l) = .ok true ∧ ∃ x xs, f (e.sets l) = .ok x ∧ lcGo p c f e ds = .ok xs ∧ r = x :: xs) ∨ (c (e.sets l) = .ok false ∧ lcGo p c f e ds = .ok r)) := by
  unfold lcGo at h
  cases q : p.bindD d with
  | none => rw [q] at h; cases h
  | some l =>
    rw [q] at h
    refine ⟨l, rfl, ?_⟩
    dsimp only at h
    cases q2 : c (e.sets l) with
    | ok b =>
      rw [q2] at h
      cases b with
      | true =>
        dsimp only at h
        cases q3 : f (e.sets l) with
        | ok x =>
          rw [q3] at h
          dsimp only at h
          cases q4 : lcGo p c f e ds with
          | ok xs => rw [q4] at h; cases h; exact .inl ⟨rfl, x, xs, rfl, rfl, rfl⟩
          | exc k => rw [q4] at h; cases h
          | bad => rw [q4] at h; cases h
        | exc k => rw [q3] at h; cases h
        | bad => rw [q3] at h; cases h
      | false => exact .inr ⟨rfl, h⟩
    | exc k => rw [q2] at h; cases h
    | bad => rw [q2] at h; cases h
theorem lcGo_noexc {p : Pat} {c : En → Rz Bool} {f : En → Rz D} {e : En} : ∀ (ds : List D) (k : Nat), lcGo p c f e ds ≠ .exc k
  | [], k => by unfold lcGo; exact fun h => nomatch h
  | d :: ds, k => by
    have ih := lcGo_noexc (p := p) (c := c) (f := f) (e := e) ds
    intro h
    unfold lcGo at h
    split at h
    · cases h
    · split at h
      · split at h
        · cases q : lcGo p c f e ds with
          | ok xs => rw [q] at h; cases h
          | exc k' => exact ih k' q
          | bad => rw [q] at h; cases h
        · cases h
      · exact ih k h
      · cases h
theorem lc_tOf {fi : En → Rz (List D)} {p : Pat} {c : En → Rz Bool} {f : En → Rz D} {vs : List Nat} {K : PySem.W.Frag} {n : Nat} (hn : ∀ i ∈ p.slots, i < n) (hv : ∀ i ∈ p.slots, i ∈ vs) {σ : St} {H : Hp} {Q : VK} (h : lOf K n ca W (eLc fi p c f vs) σ H Q) :
    tLc (iOf K n ca W fi) (gOf K p) (cOf K n ca W0 c) (tOf K n ca W0 true f) vs σ H Q := by
  obtain ⟨Γ, e, r, h⟩ := h
  refine ⟨Γ, e, r, h.bind.imp fun ds H1 s k J hJ DD hD => ?_⟩
  have k : Out ca W σ H1 (fun ds H' => ∀ p vs, H p = none → H' p = some (.lst vs) → RepL K (Γ.mark p n) H' ds vs → Q (.ref p) H') (if ds.length ≤ lim then lcGo p c f (wipeE e vs) ds else .bad) := k
  have hl : ds.length ≤ lim := by
    by_cases hl : ds.length ≤ lim
    · exact hl
    · rw [if_neg hl] at k; exact k.elim
  rw [if_pos hl] at k
  cases q : lcGo p c f (wipeE e vs) ds with
  | bad => rw [q] at k; exact k.elim
  | exc c' => exact absurd q (lcGo_noexc ds c')
  | ok res =>
    rw [q] at k
    have r1 : R K n (Γ.mark DD n) σ (upd H1 DD (.lst [])) e := (r.same s).marked hD (same_new hD) upd_same
    refine ⟨fun i m H2 => i + m = ds.length ∧ ∃ acc vacc rest, H2 DD = some (.lst vacc) ∧ RepL K (Γ.mark DD n) H2 acc vacc ∧ acc.length ≤ i ∧ lcGo p c f (wipeE e vs) (ds.drop i) = .ok rest ∧ res = acc ++ rest ∧ R K n (Γ.mark DD n) σ H2 e ∧ Same H1 H2 ∧ Evo K Γ H1 (Γ.mark DD n) H2,
      ⟨ds.length, by omega, [], [], res, upd_same, .nil, by simp, q, rfl, r1, same_new hD, .marked hD (same_new hD)⟩, ?_⟩
    rintro i m H2 ⟨hm, acc, vacc, rest, hacc, racc, hai, hgo, hres, r2, s2, ev⟩
    obtain ⟨gos, stops⟩ := hJ _ H2 ev
    by_cases hi : i < ds.length
    · obtain ⟨d, hd⟩ : ∃ d, ds[i]? = some d := ⟨ds[i], List.getElem?_eq_getElem hi⟩
      obtain ⟨go, yl⟩ := gos i d hd
      have hdr : ds.drop i = d :: ds.drop (i + 1) := by
        rw [List.drop_eq_getElem_cons hi]
        rw [List.getElem?_eq_getElem hi] at hd
        cases hd; rfl
      rw [hdr] at hgo
      obtain ⟨l, hb, hcase⟩ := lcGo_cons hgo
      refine .inr ⟨go, fun H' => ∃ acc vacc rest, H' DD = some (.lst vacc) ∧ RepL K (Γ.mark DD n) H' acc vacc ∧ acc.length ≤ i + 1 ∧ lcGo p c f (wipeE e vs) (ds.drop (i + 1)) = .ok rest ∧ res = acc ++ rest ∧ R K n (Γ.mark DD n) σ H' e ∧ Same H1 H' ∧ Evo K Γ H1 (Γ.mark DD n) H',
        fun H' hN => ⟨m - 1, by omega, by omega, hN⟩, fun x H3 hy => ?_⟩
      obtain ⟨s3, rx⟩ := yl x H3 hy
      refine ⟨Γ.mark DD n, d, l, rx, hb, fun ws hws => ⟨?_, ?_⟩⟩
      · rw [wipe_sets vs _ _ _ hv, wipe_idem]
      · have r3 : R K n (Γ.mark DD n) (setsV (wipe σ vs) p.slots ws) H3 ((wipeE e vs).sets l) := by
          have := ((r2.same s3).wipe vs).sets (l := l) (ws := ws) (by rw [Pat.bind_slots hb]; exact hn) hws
          rw [Pat.bind_slots hb] at this
          exact this
        rcases hcase with ⟨hc1, y, ys, hf1, hg1, hr1⟩ | ⟨hc1, hg1⟩
        · refine ⟨_, _, r3, ?_⟩
          rw [hc1]
          intro H4 s4
          refine iteT ⟨_, _, r3.same s4, ?_⟩
          rw [hf1]
          intro H5 s5 v rv
          have s25 : Same H2 H5 := (s3.trans s4).trans s5
          have hD5 : H5 DD = some (.lst vacc) := s25 _ _ hacc
          refine ⟨vacc, hD5, ?_, acc ++ [y], vacc ++ [v], ys, upd_same, ?_, by simp; omega, hg1, by rw [hres, hr1]; simp, ?_, ?_, ?_⟩
          · rw [racc.length]
            have : lim < sizeLine := by decide
            omega
          · exact ((racc.same s25).append (.cons rv .nil)).wr (by rw [mark_self]; exact fun z => nomatch z) hD5
          · refine (r2.same s25).wr mark_self (fun ds' z => ?_) hD5
            have := (r2.same s25).sl n
            rw [z] at this
            obtain ⟨_, _, z1, _⟩ := this
            rw [List.getElem?_eq_none (by rw [r2.len]; exact Nat.le_refl _)] at z1
            cases z1
          · intro b o hb'
            rw [upd_ne (fun z => ?_)]
            · exact s25 _ _ (s2 _ _ hb')
            · rw [z, hD] at hb'; cases hb'
          · exact (ev.trans (.same s25)).trans (.wr (by rw [mark_self]; exact fun z => nomatch z) hD5)
        · refine ⟨_, _, r3, ?_⟩
          rw [hc1]
          intro H4 s4
          have s24 : Same H2 H4 := s3.trans s4
          exact iteF ⟨acc, vacc, rest, s24 _ _ hacc, racc.same s24, by omega, hg1, hres, r2.same s24, s2.trans s24, ev.trans (.same s24)⟩
    · have hdr : ds.drop i = [] := List.drop_eq_nil_of_le (by omega)
      rw [hdr] at hgo
      unfold lcGo at hgo
      cases hgo
      rw [List.append_nil] at hres
      subst hres
      have hie : i = ds.length := by omega
      subst hie
      refine .inl ⟨stops, ?_⟩
      exact k H2 s2 DD vacc (s.free hD) hacc racc
/-- tests of a comprehension -/
abbrev DTs (ca : Nat → Addr) (W : WX) (X : Cx) (es : List Expr) (f : En → Rz Bool) : Prop := PTs X es (cOf X.K X.N.length ca W f)
theorem pts_imp {es : List Expr} {t t' : TT} (h : PTs X es t) (k : ∀ σ H Q, t' σ H Q → t σ H Q) : PTs X es t' := ⟨fun pins s σ H Q I h' => h.run pins s σ H Q I (k _ _ _ h')⟩
theorem dts_nil : DTs ca W X [] cTrue := pts_imp pts_nil fun σ H Q ⟨Γ, e, r, h⟩ => h H (Same.refl _)
theorem dts_one {c : Expr} {f : En → Rz Bool} (h : DT ca W X c f) : DTs ca W X [c] f := pts_one h
theorem dl_lc {elt tg iter : Expr} {ifs : List Expr} {scope : Scope} {pos : Pos} {fi : En → Rz (List D)} {p : Pat} {c : En → Rz Bool} {f : En → Rz D} (own : List (Str × Nat)) (hc : X.calm = true) (hN : X.N.Nodup) (hi : DI ca W X tg iter fi) (ok : blkC X.N X.env.scope scope own = true)
    (hg : ∀ (s : Shared) (H : Hp) (C : Addr) (cl : List (Str × Addr)) (fp : List Addr), DG (X.blk s H scope (compEnvC scope cl C X.env) fp) tg p) (ht : ∀ (s : Shared) (H : Hp) (C : Addr) (cl : List (Str × Addr)) (fp : List Addr), DTs ca W0 (X.blk s H scope (compEnvC scope cl C X.env) fp) ifs c)
    (he : ∀ (s : Shared) (H : Hp) (C : Addr) (cl : List (Str × Addr)) (fp : List Addr), DE true ca W0 (X.blk s H scope (compEnvC scope cl C X.env) fp) elt f) (hn : (p.slots.all fun i => decide (i < X.N.length)) = true := by rfl) (hv : (p.slots.all fun i => decide (i ∈ own.map (·.2))) = true := by rfl) (hs : ∀ x, foldedSetIterable iter X.env x = pure x := by intro _; rfl) :
    DL ca W X (.ListComp elt [⟨tg, iter, ifs, 0⟩] scope pos) (eLc fi p c f (own.map (·.2))) :=
  pe_imp (pe_lc (g := gOf X.K p) (tt := cOf X.K X.N.length ca W0 c) (te := tOf X.K X.N.length ca W0 true f) hc hN hi (blkOk_by ok) hg ht he hs) fun σ H Q h => lc_tOf (allB hn) (allB hv) h
/-- y = [..] -/
theorem ds_lc {i : Nat} {y : Str} {py : Pos} {elt tg iter : Expr} {ifs : List Expr} {scope : Scope} {pos spos : Pos} {fi : En → Rz (List D)} {p : Pat} {c : En → Rz Bool} {f : En → Rz D} (own : List (Str × Nat)) (hc : X.calm = true) (hN : X.N.Nodup) (hi : DI ca W X tg iter fi) (ok : blkC X.N X.env.scope scope own = true)
    (hg : ∀ (s : Shared) (H : Hp) (C : Addr) (cl : List (Str × Addr)) (fp : List Addr), DG (X.blk s H scope (compEnvC scope cl C X.env) fp) tg p) (ht : ∀ (s : Shared) (H : Hp) (C : Addr) (cl : List (Str × Addr)) (fp : List Addr), DTs ca W0 (X.blk s H scope (compEnvC scope cl C X.env) fp) ifs c)
    (he : ∀ (s : Shared) (H : Hp) (C : Addr) (cl : List (Str × Addr)) (fp : List Addr), DE true ca W0 (X.blk s H scope (compEnvC scope cl C X.env) fp) elt f) (hy : X.N[i]? = some y := by rfl) (hyl : X.env.scope.names.lookup y = some .local := by rfl)
    (hsw : swapsWith (.ListComp elt [⟨tg, iter, ifs, 0⟩] scope pos) (some (.Name y py)) spos.line X.env = pure true := by exact sw_true rfl rfl rfl (by decide +kernel))
    (hn : (p.slots.all fun i => decide (i < X.N.length)) = true := by rfl) (hv : (p.slots.all fun i => decide (i ∈ own.map (·.2))) = true := by rfl) (hs : ∀ x, foldedSetIterable iter X.env x = pure x := by intro _; rfl) :
    DS ca W Φ X (.Assign [.Name y py] (.ListComp elt [⟨tg, iter, ifs, 0⟩] scope pos) spos) (sOwn i (eLc fi p c f (own.map (·.2)))) := by
  refine ps_imp (ps_setLc (g := gOf X.K p) (tt := cOf X.K X.N.length ca W0 c) (te := tOf X.K X.N.length ca W0 true f) hc hN hy hyl hsw hi (blkOk_by ok) hg ht he hs) fun E σ H ⟨Γ, e, r, k⟩ => ?_
  refine lc_tOf (ca := ca) (W := W) (allB hn) (allB hv) ⟨Γ, e, r.r, ?_⟩
  have k : sOut X.K X.N.length ca W Φ E Γ H (onR (eLc fi p c f (own.map (·.2)) e) e fun ds => .next (e.set i (.own ds))) := k
  cases q : eLc fi p c f (own.map (·.2)) e with
  | ok ds =>
    rw [q] at k
    exact fun H' s p vs hp hl rv => k _ _ H' (r.setL (gt_len hy) hp s hl rv) (.marked hp s)
  | exc c => rw [q] at k; exact fun H' s => k Γ σ H' (r.same s) (.same s)
  | bad => rw [q] at k; exact k
/-! ### while -/
def whileGo (c : En → Rz Bool) (h : En → SR) : Nat → En → SR
  | 0, _ => .bad
  | n + 1, e => onR (c e) e fun k => if k = true then (match h e with
    | .next e2 => whileGo c h n e2
    | .cont e2 => whileGo c h n e2
    | .brk e2 => .next e2
    | r => r) else .next e
theorem ds_while (fuel : Nat) {c : Expr} {body : List Stmt} {fc : En → Rz Bool} {h : En → SR} {pos : Pos} (hp : PassesOwn (model X.prog X.w) X.A X.env X.xe) (hc : DT ca W X c fc) (hb : DSs ca W Φ X body h) : DS ca W Φ X (.While c body [] pos) (whileGo fc h fuel) := by
  refine ps_imp (ps_while hp hc hb) fun E σ H ⟨Γ, e, r, k⟩ => ?_
  refine ⟨fun m σ2 H2 => ∃ Γ2 e2, RS X.K X.N.length Φ Γ2 σ2 H2 e2 ∧ sOut X.K X.N.length ca W Φ E Γ2 H2 (whileGo fc h m e2), ⟨fuel, Γ, e, r, k⟩, ?_⟩
  rintro m σ2 H2 ⟨Γ2, e2, r2, k2⟩
  cases m with
  | zero => exact k2.elim
  | succ m =>
    unfold whileGo at k2
    refine ⟨Γ2, e2, r2.r, r2.out k2 fun b H3 s3 r3 k3 => ?_⟩
    cases b with
    | false =>
      rw [if_neg (by decide)] at k3
      exact k3 Γ2 σ2 H3 r3 .refl
    | true =>
      rw [if_pos rfl] at k3
      refine ⟨fun σ' H' => ∃ Γ2 e2, RS X.K X.N.length Φ Γ2 σ' H' e2 ∧ sOut X.K X.N.length ca W Φ E Γ2 H' (whileGo fc h m e2), fun σ' H' q => ⟨m, Nat.lt_succ_self m, q⟩, Γ2, e2, r3, ?_⟩
      cases q2 : h e2 with
      | next e4 => rw [q2] at k3; exact fun Γ4 σ4 H4 r4 ev4 => ⟨Γ4, e4, r4, k3.on ev4⟩
      | cont e4 => rw [q2] at k3; exact fun Γ4 σ4 H4 r4 ev4 => ⟨Γ4, e4, r4, k3.on ev4⟩
      | brk e4 => rw [q2] at k3; exact k3
      | ret d4 e4 => rw [q2] at k3; exact k3
      | exc c e4 => rw [q2] at k3; exact k3
      | bad => rw [q2] at k3; exact k3
end
end G
set_option Elab.async false
set_option linter.all false
set_option maxRecDepth 100000
set_option maxHeartbeats 4000000
namespace G
open PySem PySem.Spec PyProof.Rows L2

/-! ### a def -/
def En.st (ds : List D) : En := ⟨fun i => match ds[i]? with | some d => .val d | none => .un, []⟩
def fnD (g : En → SR) : List D → Rz D := fun ds => match g (En.st ds) with
  | .ret d _ => .ok d
  | .next _ => .ok .non
  | .exc c _ => .exc c
  | _ => .bad
def FmOf (H : Hp) (own : Addr → Option Nat) (om : Nat → Option Addr) (al : ∀ p, own p ≠ none → H p ≠ none) : Fm where
  J := fun o s H' => o = om ∧ Same H H'
  av := fun p => own p ≠ none
  grow := fun _ _ _ _ h s => ⟨h.1, h.2.trans s⟩
  ind := fun o s H1 p h hp o2 s2 H2 ws vs h2 hl => ⟨h2.1, fun b x e => by
    rw [upd_ne (fun z => ?_)]
    · exact h2.2 _ _ e
    · subst z
      rw [h.2 _ _ e] at hp; cases hp⟩
section
variable {P : Program} {w : World} {K : PySem.W.Frag} {mg : Str → Option Value} {base : Heap} {ca : Nat → Addr}
theorem start_len {N : List Str} {vs : List V} (h : vs.length ≤ N.length) : (L2.start N vs).length = N.length := by
  unfold L2.start
  rw [List.length_append, List.length_map, List.length_replicate]
  omega
theorem start_get {N : List Str} {vs : List V} {i : Nat} {v : V} (h : vs[i]? = some v) : (L2.start N vs)[i]? = some (some v) := by
  unfold L2.start
  have hi : i < vs.length := by
    by_cases hi : i < vs.length
    · exact hi
    · rw [List.getElem?_eq_none (by omega)] at h; cases h
  rw [List.getElem?_append_left (by simpa using hi), List.getElem?_map, h]
  rfl
theorem fun_okN {x qual : Str} {st : Stmt} {f : Addr} {fd : FuncData} {N ps : List Str} {k : Nat} {sp : Sp} (F : Fun K x qual st f fd) (S : FnScope N ps (defScope st)) (len : ∀ vs H Q E, sp vs H Q E → vs.length = ps.length)
    (hbody : ∀ (cdv : Value) (A : Around) (outer : List PySem.Env) (s : Shared) (H : Hp) (vs : List V) (Q : VK) (E : XK), Room k (A.deeper (envOfC qual (defScope st) s.heap.objs.size f cdv)) → sp vs H Q E →
      ∃ t, PSs (cxOf (L2N.CX P w) P w K mg base N qual (defScope st) f cdv A outer s H E) (defBody st) t ∧ t { nx := fun _ H' => Q .non H', rt := Q } (L2.start N vs) H) : FnOk P w K mg base (L2N.CX P w) (k + 1) f fd ps sp := by
  obtain ⟨oc, od, kV, doc, pm, an, cdv, ct, osl, rfl, lk, hcd⟩ := F.ex
  exact fn_of lk hcd S len fun A outer s H vs Q E hr hsp => hbody cdv A outer s H vs Q E hr hsp
/-- a def by its body -/
theorem fn_ok {x qual : Str} {st : Stmt} {f : Addr} {fd : FuncData} {N ps : List Str} {k : Nat} {g : En → SR} (F : Fun K x qual st f fd) (S : FnScope N ps (defScope st))
    (hbody : ∀ (cdv : Value) (A : Around) (outer : List PySem.Env) (s : Shared) (H : Hp) (E : XK) (Φ : Fm), Room k (A.deeper (envOfC qual (defScope st) s.heap.objs.size f cdv)) →
      L2N.Takes (cxOf (L2N.CX P w) P w K mg base N qual (defScope st) f cdv A outer s H E) (fun cls d _ H => E cls d H) →
      PassesOwn (model P w) (cxOf (L2N.CX P w) P w K mg base N qual (defScope st) f cdv A outer s H E).A (cxOf (L2N.CX P w) P w K mg base N qual (defScope st) f cdv A outer s H E).env (cxOf (L2N.CX P w) P w K mg base N qual (defScope st) f cdv A outer s H E).xe →
      DSs ca (fun cls d _ H => E cls d H) Φ (cxOf (L2N.CX P w) P w K mg base N qual (defScope st) f cdv A outer s H E) (defBody st) g) : FnOk P w K mg base (L2N.CX P w) (k + 1) f fd ps (spOf K ca ps.length (fnD g)) := by
  have hpl : ps.length ≤ N.length := by have := congrArg List.length S.pre; rw [List.length_take] at this; omega
  refine fun_okN F S (fun vs H Q E h => h.1) fun cdv A outer s H vs Q E hr h => ?_
  obtain ⟨hl, Γ, ds, al, rv, h⟩ := h
  refine ⟨_, hbody cdv A outer s H E (FmOf H Γ.own Γ.om al) hr (L2N.takes_of (E := E) rfl rfl rfl rfl) (passes_of rfl), ?_⟩
  let Γ' : Gm := { own := fun p => match Γ.own p with | none => none | some _ => some N.length, om := Γ.om }
  have ownN : ∀ p, Γ.own p = none ↔ Γ'.own p = none := fun p => by
    show _ ↔ (match Γ.own p with | none => none | some _ => some N.length) = none
    cases Γ.own p <;> simp
  have le1 : Γ'.Le Γ := ⟨fun a q => (ownN a).mp q, fun _ _ q => q⟩
  have le2 : Γ.Le Γ' := ⟨fun a q => (ownN a).mpr q, fun _ _ q => q⟩
  refine ⟨Γ', En.st ds, ⟨⟨start_len (by omega), fun i => ?_, fun p hp => ?_⟩, ⟨rfl, Same.refl H⟩, fun p i hp hi => ?_, fun p hp => ?_⟩, ?_⟩
  · show SRel K Γ' H i (match ds[i]? with | some d => .val d | none => .un) _
    cases q : ds[i]? with
    | none => trivial
    | some d =>
      obtain ⟨v, hv, r⟩ := rv.get q
      exact ⟨v, start_get hv, r.weak le1⟩
  · exact al p fun z => hp ((ownN p).mp z)
  · exfalso
    have hp : (match Γ.own p with | none => none | some _ => some N.length) = some i := hp
    cases q : Γ.own p with
    | none => rw [q] at hp; cases hp
    | some j => rw [q] at hp; cases hp; exact Nat.lt_irrefl _ hi
  · have hp : Γ.own p ≠ none := hp
    cases q : Γ.own p with
    | none => exact absurd q hp
    | some j =>
      refine ⟨N.length, ?_, Nat.le_refl _⟩
      show (match Γ.own p with | none => none | some _ => some N.length) = _
      rw [q]
  · unfold fnD at h
    show sOut K N.length ca _ _ _ _ _ (g _)
    cases q : g (En.st ds) with
    | ret d e =>
      rw [q] at h
      intro Γ2 H2 v hj hav r
      obtain ⟨ho, hs⟩ := hj
      refine h v H2 hs (r.weak ⟨fun a z => ?_, fun n a z => by rw [← ho]; exact z⟩)
      cases qa : Γ.own a with
      | none => rfl
      | some j => exact absurd z (hav a (by show Γ.own a ≠ none; rw [qa]; exact fun z => nomatch z))
    | next e =>
      rw [q] at h
      intro Γ2 σ2 H2 r _
      exact h .non H2 r.j.2 .non
    | exc c e =>
      rw [q] at h
      intro Γ2 σ2 H2 r _
      exact h H2 r.j.2
    | brk e => rw [q] at h; exact h.elim
    | cont e => rw [q] at h; exact h.elim
    | bad => rw [q] at h; exact h.elim
/-- nothing is promised -/
theorem fn_zero {k : Nat} {f : Addr} {fd : FuncData} {ps : List Str} {m : Nat} (hm : m = ps.length) : FnOk P w K mg base (L2N.CX P w) k f fd ps (spOf K ca m (fun _ => .bad)) :=
  ⟨fun vs H Q E h => by rw [h.1, hm], fun _ _ _ _ _ _ _ _ _ _ _ _ _ h => by obtain ⟨_, _, _, _, _, h⟩ := h; exact h.elim⟩
end

/-! ### operators on data -/
section
variable {K : PySem.W.Frag}
def addD : D → D → Option D
  | .int i, .int j => some (.int (i + j))
  | .str x, .str y => if x.length + y.length ≤ sizeLine then some (.str (x ++ y)) else none
  | .tup xs, .tup ys => if xs.length + ys.length ≤ sizeLine then some (.tup (xs ++ ys)) else none
  | .lst xs, .lst ys => if xs.length + ys.length ≤ sizeLine then some (.lst (xs ++ ys)) else none
  | _, _ => none
def subD : D → D → Option D
  | .int i, .int j => some (.int (i - j))
  | _, _ => none
def mulD : D → D → Option D
  | .int i, .int j => if (-(2 ^ 64) < i ∧ i < 2 ^ 64) ∨ (-(2 ^ 64) < j ∧ j < 2 ^ 64) then some (.int (i * j)) else none
  | _, _ => none
def fdivD : D → D → Option D
  | .int i, .int j => if 0 < j ∧ j < 2 ^ 100 then some (.int (i / j)) else none
  | _, _ => none
def modD : D → D → Option D
  | .int i, .int j => if 0 < j then some (.int (i % j)) else none
  | _, _ => none
def ltD : D → D → Option D
  | .int i, .int j => some (.bl (decide (i < j)))
  | _, _ => none
def leD : D → D → Option D
  | .int i, .int j => some (.bl (decide (i ≤ j)))
  | _, _ => none
def gtD : D → D → Option D
  | .int i, .int j => some (.bl (decide (j < i)))
  | _, _ => none
def geD : D → D → Option D
  | .int i, .int j => some (.bl (decide (j ≤ i)))
  | _, _ => none
theorem opd_int {g : Int → Int → V} {gd : Int → Int → D} {h : D → D → Option D} (hr : ∀ Γ H i j, Rep K Γ H (gd i j) (g i j)) (hh : ∀ x y d, h x y = some d → ∃ i j, x = .int i ∧ y = .int j ∧ d = gd i j) : OpD K (rI0 g) h := by
  intro Γ H x y dx dy d Q al rx ry hd k
  obtain ⟨i, j, rfl, rfl, rfl⟩ := hh dx dy d hd
  exact ⟨i, j, rep_int rx, rep_int ry, k _ _ (Same.refl _) (hr _ _ _ _)⟩
theorem opd_sub : OpD K (rI0 fun i j => .int (i - j)) subD := opd_int (gd := fun i j => .int (i - j)) (fun _ _ _ _ => .int) fun x y d h => by
  unfold subD at h; split at h <;> cases h; exact ⟨_, _, rfl, rfl, rfl⟩
theorem opd_lt : OpD K (rI0 fun i j => .bl (decide (i < j))) ltD := opd_int (gd := fun i j => .bl (decide (i < j))) (fun _ _ _ _ => .bl) fun x y d h => by
  unfold ltD at h; split at h <;> cases h; exact ⟨_, _, rfl, rfl, rfl⟩
theorem opd_le : OpD K (rI0 fun i j => .bl (decide (i ≤ j))) leD := opd_int (gd := fun i j => .bl (decide (i ≤ j))) (fun _ _ _ _ => .bl) fun x y d h => by
  unfold leD at h; split at h <;> cases h; exact ⟨_, _, rfl, rfl, rfl⟩
theorem opd_gt : OpD K (rI0 fun i j => .bl (decide (j < i))) gtD := opd_int (gd := fun i j => .bl (decide (j < i))) (fun _ _ _ _ => .bl) fun x y d h => by
  unfold gtD at h; split at h <;> cases h; exact ⟨_, _, rfl, rfl, rfl⟩
theorem opd_ge : OpD K (rI0 fun i j => .bl (decide (j ≤ i))) geD := opd_int (gd := fun i j => .bl (decide (j ≤ i))) (fun _ _ _ _ => .bl) fun x y d h => by
  unfold geD at h; split at h <;> cases h; exact ⟨_, _, rfl, rfl, rfl⟩
theorem opd_mul : OpD K (rI CMul fun i j => .int (i * j)) mulD := by
  intro Γ H x y dx dy d Q al rx ry hd k
  unfold mulD at hd
  split at hd
  · rename_i i j
    split at hd
    · rename_i hc
      cases hd
      exact ⟨i, j, rep_int rx, rep_int ry, hc, k _ _ (Same.refl _) .int⟩
    · cases hd
  · cases hd
theorem opd_fdiv : OpD K (rI CDivW fun i j => .int (i / j)) fdivD := by
  intro Γ H x y dx dy d Q al rx ry hd k
  unfold fdivD at hd
  split at hd
  · rename_i i j
    split at hd
    · rename_i hc
      cases hd
      refine ⟨i, j, rep_int rx, rep_int ry, wide_div (b := 100) hc.1 ?_ (by decide) (by decide), k _ _ (Same.refl _) .int⟩
      have := hc.2
      omega
    · cases hd
  · cases hd
theorem opd_mod : OpD K (rI (fun _ j => 0 < j) fun i j => .int (i % j)) modD := by
  intro Γ H x y dx dy d Q al rx ry hd k
  unfold modD at hd
  split at hd
  · rename_i i j
    split at hd
    · rename_i hc
      cases hd
      exact ⟨i, j, rep_int rx, rep_int ry, hc, k _ _ (Same.refl _) .int⟩
    · cases hd
  · cases hd
/-- a written divisor, factor -/
def mulC (c : Int) : D → D → Option D
  | .int i, .int j => some (.int (i * j))
  | _, _ => none
end
section
variable {X : Cx} {ca : Nat → Addr} {W : WX} {b : Bool} {a c : Expr} {fa fb : En → Rz D} {pos : Pos}
theorem de_sub (ha : DE b ca W X a fa) (hb : DE b ca W X c fb) : DE b ca W X (.BinOp a .Sub c pos) (eBin subD fa fb) := de_bin op_sub opd_sub ha hb
theorem de_mul (ha : DE b ca W X a fa) (hb : DE b ca W X c fb) : DE b ca W X (.BinOp a .Mult c pos) (eBin mulD fa fb) := de_bin op_mul opd_mul ha hb
theorem de_fdiv (ha : DE b ca W X a fa) (hb : DE b ca W X c fb) : DE b ca W X (.BinOp a .FloorDiv c pos) (eBin fdivD fa fb) := de_bin op_fdivW opd_fdiv ha hb
theorem de_mod (ha : DE b ca W X a fa) (hb : DE b ca W X c fb) : DE b ca W X (.BinOp a .Mod c pos) (eBin modD fa fb) := de_bin op_mod opd_mod ha hb
/-! with a written int -/
def eMulL (k : Int) (f : En → Rz D) : En → Rz D := fun e => (f e).bind fun d => match d with | .int i => .ok (.int (k * i)) | _ => .bad
def eMulR (k : Int) (f : En → Rz D) : En → Rz D := fun e => (f e).bind fun d => match d with | .int i => .ok (.int (i * k)) | _ => .bad
def eDivC (k : Int) (f : En → Rz D) : En → Rz D := fun e => (f e).bind fun d => match d with | .int i => .ok (.int (i / k)) | _ => .bad
def eModC (k : Int) (f : En → Rz D) : En → Rz D := fun e => (f e).bind fun d => match d with | .int i => .ok (.int (i % k)) | _ => .bad
theorem de_mulL {k : Int} {j p} (ha : DE b ca W X a fa) (hk : -(2 ^ 64) < k ∧ k < 2 ^ 64 := by decide) : DE b ca W X (.BinOp (.Constant (.int k) j p) .Mult a pos) (eMulL k fa) := by
  refine pe_imp (pe_op op_mul pe_int ha) fun σ H Q ⟨Γ, e, r, h⟩ => ⟨Γ, e, r, h.bind.imp fun d H1 s q v rv => ?_⟩
  cases d with
  | int i => exact ⟨k, i, rfl, rep_int rv, .inl hk, q H1 (Same.refl _) _ .int⟩
  | _ => exact q.elim
theorem de_mulR {k : Int} {j p} (ha : DE b ca W X a fa) (hk : -(2 ^ 64) < k ∧ k < 2 ^ 64 := by decide) : DE b ca W X (.BinOp a .Mult (.Constant (.int k) j p) pos) (eMulR k fa) := by
  refine pe_imp (pe_op op_mul ha pe_int) fun σ H Q ⟨Γ, e, r, h⟩ => ⟨Γ, e, r, h.bind.imp fun d H1 s q v rv => ?_⟩
  cases d with
  | int i => exact ⟨i, k, rep_int rv, rfl, .inr hk, q H1 (Same.refl _) _ .int⟩
  | _ => exact q.elim
theorem de_divC {k : Int} {j p} (ha : DE b ca W X a fa) (hk : 0 < k ∧ k < 1073741824 := by decide) : DE b ca W X (.BinOp a .FloorDiv (.Constant (.int k) j p) pos) (eDivC k fa) := by
  refine pe_imp (pe_op op_fdiv ha pe_int) fun σ H Q ⟨Γ, e, r, h⟩ => ⟨Γ, e, r, h.bind.imp fun d H1 s q v rv => ?_⟩
  cases d with
  | int i => exact ⟨i, k, rep_int rv, rfl, hk, q H1 (Same.refl _) _ .int⟩
  | _ => exact q.elim
theorem de_modC {k : Int} {j p} (ha : DE b ca W X a fa) (hk : 0 < k := by decide) : DE b ca W X (.BinOp a .Mod (.Constant (.int k) j p) pos) (eModC k fa) := by
  refine pe_imp (pe_op op_mod ha pe_int) fun σ H Q ⟨Γ, e, r, h⟩ => ⟨Γ, e, r, h.bind.imp fun d H1 s q v rv => ?_⟩
  cases d with
  | int i => exact ⟨i, k, rep_int rv, rfl, hk, q H1 (Same.refl _) _ .int⟩
  | _ => exact q.elim
def eNeg (f : En → Rz D) : En → Rz D := fun e => (f e).bind fun d => match d with | .int i => .ok (.int (-i)) | _ => .bad
theorem de_neg (ha : DE b ca W X a fa) : DE b ca W X (.UnaryOp .USub a pos) (eNeg fa) := by
  refine pe_imp (pe_un un_neg ha) fun σ H Q ⟨Γ, e, r, h⟩ => ⟨Γ, e, r, h.bind.imp fun d H1 s q v rv => ?_⟩
  cases d with
  | int i => exact ⟨i, rep_int rv, q H1 (Same.refl _) _ .int⟩
  | _ => exact q.elim
theorem de_lt (ha : DE b ca W X a fa) (hb : DE b ca W X c fb) : DE b ca W X (.Compare a [.Lt] [c] pos) (eBin ltD fa fb) := de_cmp op_lt opd_lt ha hb (nomark _)
theorem de_le (ha : DE b ca W X a fa) (hb : DE b ca W X c fb) : DE b ca W X (.Compare a [.LtE] [c] pos) (eBin leD fa fb) := de_cmp op_le opd_le ha hb (nomark _)
theorem de_gt (ha : DE b ca W X a fa) (hb : DE b ca W X c fb) : DE b ca W X (.Compare a [.Gt] [c] pos) (eBin gtD fa fb) := de_cmp op_gt opd_gt ha hb (nomark _)
theorem de_ge (ha : DE b ca W X a fa) (hb : DE b ca W X c fb) : DE b ca W X (.Compare a [.GtE] [c] pos) (eBin geD fa fb) := de_cmp op_ge opd_ge ha hb (nomark _)
theorem dt_lt (ha : DE b ca W X a fa) (hb : DE b ca W X c fb) : DT ca W X (.Compare a [.Lt] [c] pos) (cB (eBin ltD fa fb)) := dt_cmp op_lt opd_lt ha hb (nomark _)
theorem dt_le (ha : DE b ca W X a fa) (hb : DE b ca W X c fb) : DT ca W X (.Compare a [.LtE] [c] pos) (cB (eBin leD fa fb)) := dt_cmp op_le opd_le ha hb (nomark _)
theorem dt_gt (ha : DE b ca W X a fa) (hb : DE b ca W X c fb) : DT ca W X (.Compare a [.Gt] [c] pos) (cB (eBin gtD fa fb)) := dt_cmp op_gt opd_gt ha hb (nomark _)
theorem dt_ge (ha : DE b ca W X a fa) (hb : DE b ca W X c fb) : DT ca W X (.Compare a [.GtE] [c] pos) (cB (eBin geD fa fb)) := dt_cmp op_ge opd_ge ha hb (nomark _)
end
end G
set_option Elab.async false
set_option linter.all false
set_option maxRecDepth 100000
set_option maxHeartbeats 4000000
namespace G
open PySem PySem.Spec PyProof.Rows L2

/-! ### == -/
mutual
def D.py : D → PyData
  | .non => .none
  | .bl b => .bool b
  | .int i => .int i
  | .str x => .str x
  | .tup ds => .tuple (D.pyL ds)
  | .lst ds => .list (D.pyL ds)
  | .scr _ => .dict []
  | .obj _ => .dict []
  | .ntup _ => .dict []
  | .adr _ => .dict []
  | .dic _ _ => .dict []
def D.pyL : List D → List PyData
  | [] => []
  | d :: ds => d.py :: D.pyL ds
end
mutual
def okd : Nat → D → Bool
  | _, .non => true
  | _, .bl _ => true
  | _, .int _ => true
  | _, .str x => PyData.strOk x
  | k + 1, .tup ds => okdL k ds
  | k + 1, .lst ds => okdL k ds
  | 0, .tup _ => false
  | 0, .lst _ => false
  | _, .scr _ => false
  | _, .obj _ => false
  | _, .ntup _ => false
  | _, .adr _ => false
  | _, .dic _ _ => false
def okdL : Nat → List D → Bool
  | _, [] => true
  | k, d :: ds => okd k d && okdL k ds
end
mutual
theorem okd_can : ∀ {k : Nat} {d : D}, okd k d = true → d.py.canLay0 = true ∧ d.py.depth ≤ k
  | _, .non, _ => by simp [D.py, PyData.canLay0, PyData.depth]
  | _, .bl _, _ => by simp [D.py, PyData.canLay0, PyData.depth]
  | _, .int _, _ => by simp [D.py, PyData.canLay0, PyData.depth]
  | _, .str x, h => by simp [okd] at h; simp [D.py, PyData.canLay0, PyData.depth, h]
  | k + 1, .tup ds, h => by
    simp only [okd] at h
    obtain ⟨h1, h2⟩ := okdL_can h
    simp [D.py, PyData.canLay0, PyData.depth, h1, h2]
  | k + 1, .lst ds, h => by
    simp only [okd] at h
    obtain ⟨h1, h2⟩ := okdL_can h
    simp [D.py, PyData.canLay0, PyData.depth, h1, h2]
  | 0, .tup _, h => by simp [okd] at h
  | 0, .lst _, h => by simp [okd] at h
  | _, .scr _, h => by simp [okd] at h
  | _, .obj _, h => by simp [okd] at h
  | _, .ntup _, h => by simp [okd] at h
  | _, .adr _, h => by simp [okd] at h
  | _, .dic _ _, h => by simp [okd] at h
theorem okdL_can : ∀ {k : Nat} {ds : List D}, okdL k ds = true → PyData.canLayAll0 (D.pyL ds) = true ∧ PyData.depthAll (D.pyL ds) ≤ k
  | _, [], _ => by simp [D.pyL, PyData.canLayAll0, PyData.depthAll]
  | k, d :: ds, h => by
    simp only [okdL, Bool.and_eq_true] at h
    obtain ⟨h1, h2⟩ := okd_can h.1
    obtain ⟨h3, h4⟩ := okdL_can h.2
    simp [D.pyL, PyData.canLayAll0, PyData.depthAll, h1, h2, h3, h4]
    omega
end
theorem okd_shaped {d : D} (h : okd 64 d = true) : SeqAt.shaped d.py = true := by
  obtain ⟨h1, h2⟩ := okd_can h
  simp [SeqAt.shaped, h1, h2]
section
variable {K : PySem.W.Frag} {Γ : Gm} {H : Hp}
mutual
theorem Rep.dp : ∀ {k : Nat} {d : D} {v : V}, okd k d = true → Rep K Γ H d v → Dp K H v d.py
  | _, .non, _, _, h => by rw [rep_non h]; exact .non
  | _, .bl _, _, _, h => by rw [rep_bl h]; exact .bl _
  | _, .int _, _, _, h => by rw [rep_int h]; exact .int _
  | _, .str _, _, _, h => by rw [rep_str h]; exact .str _
  | k + 1, .tup ds, _, o, h => by
    simp only [okd] at o
    unfold Rep at h
    obtain ⟨a, vs, rfl, q, t⟩ := h
    exact .tup q (RepL.dp o t)
  | k + 1, .lst ds, _, o, h => by
    simp only [okd] at o
    unfold Rep at h
    obtain ⟨a, vs, rfl, q, _, t⟩ := h
    exact .lst (SqL.of q) (RepL.dp o t)
  | 0, .tup _, _, o, _ => by simp [okd] at o
  | 0, .lst _, _, o, _ => by simp [okd] at o
  | _, .scr _, _, o, _ => by simp [okd] at o
  | _, .obj _, _, o, _ => by simp [okd] at o
  | _, .ntup _, _, o, _ => by simp [okd] at o
  | _, .adr _, _, o, _ => by simp [okd] at o
  | _, .dic _ _, _, o, _ => by simp [okd] at o
theorem RepL.dp : ∀ {k : Nat} {ds : List D} {vs : List V}, okdL k ds = true → RepL K Γ H ds vs → DpAll K H vs (D.pyL ds)
  | _, [], _, _, h => by unfold RepL at h; subst h; exact .nil
  | k, d :: ds, _, o, h => by
    simp only [okdL, Bool.and_eq_true] at o
    unfold RepL at h
    obtain ⟨v, r, rfl, h1, h2⟩ := h
    exact .cons (Rep.dp o.1 h1) (RepL.dp o.2 h2)
end
end
mutual
def eqv : D → D → Bool
  | .non, .non => true
  | .bl a, .bl b => a == b
  | .bl a, .int j => (if a then 1 else 0) == j
  | .int i, .bl b => i == (if b then 1 else 0)
  | .int i, .int j => i == j
  | .str x, .str y => x == y
  | .lst xs, .lst ys => eqvL xs ys
  | .tup xs, .tup ys => eqvL xs ys
  | _, _ => false
def eqvL : List D → List D → Bool
  | [], [] => true
  | x :: xs, y :: ys => eqv x y && eqvL xs ys
  | _, _ => false
end
mutual
theorem eqv_py : ∀ (x y : D) (k l : Nat), okd k x = true → okd l y = true → PyData.eqv x.py y.py = eqv x y
  | .non, y, _, _, _, h => by cases y <;> simp [D.py, PyData.eqv, eqv] <;> simp [okd] at h
  | .bl _, y, _, _, _, h => by cases y <;> simp [D.py, PyData.eqv, eqv] <;> simp [okd] at h
  | .int _, y, _, _, _, h => by cases y <;> simp [D.py, PyData.eqv, eqv] <;> simp [okd] at h
  | .str _, y, _, _, _, h => by cases y <;> simp [D.py, PyData.eqv, eqv] <;> simp [okd] at h
  | .tup xs, y, k, l, g, h => by
    cases y with
    | tup ys =>
      cases k with
      | zero => simp [okd] at g
      | succ k =>
        cases l with
        | zero => simp [okd] at h
        | succ l =>
          simp only [okd] at g h
          simp only [D.py, PyData.eqv, eqv]
          exact eqvL_py xs ys k l g h
    | scr _ => simp [okd] at h
    | obj _ => simp [okd] at h
    | ntup _ => simp [okd] at h
    | adr _ => simp [okd] at h
    | dic _ _ => simp [okd] at h
    | _ => simp [D.py, PyData.eqv, eqv]
  | .lst xs, y, k, l, g, h => by
    cases y with
    | lst ys =>
      cases k with
      | zero => simp [okd] at g
      | succ k =>
        cases l with
        | zero => simp [okd] at h
        | succ l =>
          simp only [okd] at g h
          simp only [D.py, PyData.eqv, eqv]
          exact eqvL_py xs ys k l g h
    | scr _ => simp [okd] at h
    | obj _ => simp [okd] at h
    | ntup _ => simp [okd] at h
    | adr _ => simp [okd] at h
    | dic _ _ => simp [okd] at h
    | _ => simp [D.py, PyData.eqv, eqv]
  | .scr _, _, _, _, g, _ => by simp [okd] at g
  | .obj _, _, _, _, g, _ => by simp [okd] at g
  | .ntup _, _, _, _, g, _ => by simp [okd] at g
  | .adr _, _, _, _, g, _ => by simp [okd] at g
  | .dic _ _, _, _, _, g, _ => by simp [okd] at g
theorem eqvL_py : ∀ (xs ys : List D) (k l : Nat), okdL k xs = true → okdL l ys = true → PyData.eqvAll (D.pyL xs) (D.pyL ys) = eqvL xs ys
  | [], [], _, _, _, _ => by simp [D.pyL, PyData.eqvAll, eqvL]
  | [], _ :: _, _, _, _, _ => by simp [D.pyL, PyData.eqvAll, eqvL]
  | _ :: _, [], _, _, _, _ => by simp [D.pyL, PyData.eqvAll, eqvL]
  | x :: xs, y :: ys, k, l, g, h => by
    simp only [okdL, Bool.and_eq_true] at g h
    simp only [D.pyL, PyData.eqvAll, eqvL]
    rw [eqv_py x y k l g.1 h.1, eqvL_py xs ys k l g.2 h.2]
end
/-- scalars -/
def D.sc : D → Bool
  | .non => true
  | .bl _ => true
  | .int _ => true
  | .str _ => true
  | _ => false
def eqD (x y : D) : Option D := match x, y with
  | .int i, .int j => some (.bl (i == j))
  | .str a, .str c => some (.bl (a == c))
  | .non, .non => some (.bl true)
  | .non, .int _ => some (.bl false)
  | .int _, .non => some (.bl false)
  | .non, .str _ => some (.bl false)
  | .str _, .non => some (.bl false)
  | .int _, .str _ => some (.bl false)
  | .str _, .int _ => some (.bl false)
  | .bl a, .bl c => some (.bl (a == c))
  | x, y => if okd 64 x = true ∧ okd 64 y = true then some (.bl (eqv x y)) else none
def neD (x y : D) : Option D := match x, y with
  | .int i, .int j => some (.bl (!(i == j)))
  | .str a, .str c => some (.bl (!(a == c)))
  | .non, .non => some (.bl false)
  | .non, .int _ => some (.bl true)
  | .int _, .non => some (.bl true)
  | .non, .str _ => some (.bl true)
  | .str _, .non => some (.bl true)
  | .int _, .str _ => some (.bl true)
  | .str _, .int _ => some (.bl true)
  | .bl a, .bl c => some (.bl (!(a == c)))
  | x, y => if okd 64 x = true ∧ okd 64 y = true then some (.bl (!eqv x y)) else none
section
variable {X : Cx} {ca : Nat → Addr} {W : WX} {b : Bool} {a c : Expr} {fa fb : En → Rz D} {pos : Pos}
def rEqA (K : PySem.W.Frag) : R2 := fun x y H Q => rEq x y H Q ∨ rEqD K x y H Q
def rNeA (K : PySem.W.Frag) : R2 := fun x y H Q => rNe x y H Q ∨ rNeD K x y H Q
theorem opd_eq {K : PySem.W.Frag} : OpD K (rEqA K) eqD := by
  intro Γ H x y dx dy d Q al rx ry hd k
  unfold eqD at hd
  split at hd
  case h_1 => cases hd; rw [rep_int rx, rep_int ry]; exact .inl ⟨rfl, by rw [dec_int]; exact k _ _ (Same.refl _) .bl⟩
  case h_2 => cases hd; rw [rep_str rx, rep_str ry]; exact .inl ⟨rfl, by rw [dec_str]; exact k _ _ (Same.refl _) .bl⟩
  case h_3 => cases hd; rw [rep_non rx, rep_non ry]; exact .inl ⟨rfl, k _ _ (Same.refl _) .bl⟩
  case h_4 => cases hd; rw [rep_non rx, rep_int ry]; exact .inl ⟨rfl, k _ _ (Same.refl _) .bl⟩
  case h_5 => cases hd; rw [rep_int rx, rep_non ry]; exact .inl ⟨rfl, k _ _ (Same.refl _) .bl⟩
  case h_6 => cases hd; rw [rep_non rx, rep_str ry]; exact .inl ⟨rfl, k _ _ (Same.refl _) .bl⟩
  case h_7 => cases hd; rw [rep_str rx, rep_non ry]; exact .inl ⟨rfl, k _ _ (Same.refl _) .bl⟩
  case h_8 => cases hd; rw [rep_int rx, rep_str ry]; exact .inl ⟨rfl, k _ _ (Same.refl _) .bl⟩
  case h_9 => cases hd; rw [rep_str rx, rep_int ry]; exact .inl ⟨rfl, k _ _ (Same.refl _) .bl⟩
  case h_10 => cases hd; rw [rep_bl rx, rep_bl ry]; exact .inl ⟨rfl, by rw [dec_bl]; exact k _ _ (Same.refl _) .bl⟩
  case h_11 =>
    split at hd
    · rename_i ho
      cases hd
      refine .inr ⟨dx.py, dy.py, rx.dp ho.1, ry.dp ho.2, okd_shaped ho.1, okd_shaped ho.2, ?_⟩
      rw [eqv_py dx dy 64 64 ho.1 ho.2]
      exact k _ _ (Same.refl _) .bl
    · cases hd
theorem opd_ne {K : PySem.W.Frag} : OpD K (rNeA K) neD := by
  intro Γ H x y dx dy d Q al rx ry hd k
  unfold neD at hd
  split at hd
  case h_1 => cases hd; rw [rep_int rx, rep_int ry]; exact .inl ⟨rfl, by rw [dec_int]; exact k _ _ (Same.refl _) .bl⟩
  case h_2 => cases hd; rw [rep_str rx, rep_str ry]; exact .inl ⟨rfl, by rw [dec_str]; exact k _ _ (Same.refl _) .bl⟩
  case h_3 => cases hd; rw [rep_non rx, rep_non ry]; exact .inl ⟨rfl, k _ _ (Same.refl _) .bl⟩
  case h_4 => cases hd; rw [rep_non rx, rep_int ry]; exact .inl ⟨rfl, k _ _ (Same.refl _) .bl⟩
  case h_5 => cases hd; rw [rep_int rx, rep_non ry]; exact .inl ⟨rfl, k _ _ (Same.refl _) .bl⟩
  case h_6 => cases hd; rw [rep_non rx, rep_str ry]; exact .inl ⟨rfl, k _ _ (Same.refl _) .bl⟩
  case h_7 => cases hd; rw [rep_str rx, rep_non ry]; exact .inl ⟨rfl, k _ _ (Same.refl _) .bl⟩
  case h_8 => cases hd; rw [rep_int rx, rep_str ry]; exact .inl ⟨rfl, k _ _ (Same.refl _) .bl⟩
  case h_9 => cases hd; rw [rep_str rx, rep_int ry]; exact .inl ⟨rfl, k _ _ (Same.refl _) .bl⟩
  case h_10 => cases hd; rw [rep_bl rx, rep_bl ry]; exact .inl ⟨rfl, by rw [dec_bl]; exact k _ _ (Same.refl _) .bl⟩
  case h_11 =>
    split at hd
    · rename_i ho
      cases hd
      refine .inr ⟨dx.py, dy.py, rx.dp ho.1, ry.dp ho.2, okd_shaped ho.1, okd_shaped ho.2, ?_⟩
      rw [eqv_py dx dy 64 64 ho.1 ho.2]
      exact k _ _ (Same.refl _) .bl
    · cases hd
theorem de_eq (hr : Rm X.A) (ha : DE b ca W X a fa) (hb : DE b ca W X c fb) : DE b ca W X (.Compare a [.Eq] [c] pos) (eBin eqD fa fb) := de_cmp (op_eq.or (op_eqD hr.units)) opd_eq ha hb (nomark _)
theorem de_ne (hr : Rm X.A) (ha : DE b ca W X a fa) (hb : DE b ca W X c fb) : DE b ca W X (.Compare a [.NotEq] [c] pos) (eBin neD fa fb) := de_cmp (op_ne.or (op_neD hr.units)) opd_ne ha hb (nomark _)
theorem dt_eq (hr : Rm X.A) (ha : DE b ca W X a fa) (hb : DE b ca W X c fb) : DT ca W X (.Compare a [.Eq] [c] pos) (cB (eBin eqD fa fb)) := dt_cmp (op_eq.or (op_eqD hr.units)) opd_eq ha hb (nomark _)
theorem dt_ne (hr : Rm X.A) (ha : DE b ca W X a fa) (hb : DE b ca W X c fb) : DT ca W X (.Compare a [.NotEq] [c] pos) (cB (eBin neD fa fb)) := dt_cmp (op_ne.or (op_neD hr.units)) opd_ne ha hb (nomark _)
/-! ### is None, is True -/
def isN : D → Bool
  | .non => true
  | _ => false
def eIsN (f : En → Rz D) : En → Rz D := fun e => (f e).bind fun d => .ok (.bl (isN d))
def eNotN (f : En → Rz D) : En → Rz D := fun e => (f e).bind fun d => .ok (.bl (!isN d))
theorem isN_of {K : PySem.W.Frag} {Γ : Gm} {H : Hp} {d : D} {v : V} (h : Rep K Γ H d v) : decide (v = .non) = isN d := by
  cases d <;> unfold Rep at h <;> first
    | (subst h; rfl)
    | (obtain ⟨a, rfl, _⟩ := h; rfl)
    | (obtain ⟨a, vs, rfl, _⟩ := h; rfl)
theorem de_isN {j pos'} (ha : DE b ca W X a fa) : DE b ca W X (.Compare a [.Is] [.Constant .none j pos'] pos) (eIsN fa) := by
  refine pe_imp (pe_cmpR op_isN ha pe_non (nomark _)) fun σ H Q ⟨Γ, e, r, h⟩ => ⟨Γ, e, r, h.bind.imp fun d H1 s q v rv => ⟨rfl, ?_⟩⟩
  rw [isN_of rv]
  exact q H1 (Same.refl _) _ .bl
theorem de_notN {j pos'} (ha : DE b ca W X a fa) : DE b ca W X (.Compare a [.IsNot] [.Constant .none j pos'] pos) (eNotN fa) := by
  refine pe_imp (pe_cmpR op_notN ha pe_non (nomark _)) fun σ H Q ⟨Γ, e, r, h⟩ => ⟨Γ, e, r, h.bind.imp fun d H1 s q v rv => ⟨rfl, ?_⟩⟩
  rw [isN_of rv]
  exact q H1 (Same.refl _) _ .bl
theorem dt_isN {j pos'} (ha : DE b ca W X a fa) : DT ca W X (.Compare a [.Is] [.Constant .none j pos'] pos) (cB (eIsN fa)) := by
  refine pt_imp (pt_cmpR op_isN ha pe_non (nomark _)) fun σ H Q ⟨Γ, e, r, h⟩ => ?_
  have h : Out ca W σ H (fun c H' => Q c H') ((fa e).bind fun d => .ok (isN d)) := by
    have e1 : (cB (eIsN fa)) e = (fa e).bind fun d => .ok (isN d) := by
      unfold cB eIsN; cases fa e <;> rfl
    rw [← e1]; exact h
  refine ⟨Γ, e, r, h.bind.imp fun d H1 s q v rv => ⟨rfl, _, rfl, ?_⟩⟩
  rw [isN_of rv]
  exact q H1 (Same.refl _)
theorem dt_notN {j pos'} (ha : DE b ca W X a fa) : DT ca W X (.Compare a [.IsNot] [.Constant .none j pos'] pos) (cB (eNotN fa)) := by
  refine pt_imp (pt_cmpR op_notN ha pe_non (nomark _)) fun σ H Q ⟨Γ, e, r, h⟩ => ?_
  have h : Out ca W σ H (fun c H' => Q c H') ((fa e).bind fun d => .ok (!isN d)) := by
    have e1 : (cB (eNotN fa)) e = (fa e).bind fun d => .ok (!isN d) := by
      unfold cB eNotN; cases fa e <;> rfl
    rw [← e1]; exact h
  refine ⟨Γ, e, r, h.bind.imp fun d H1 s q v rv => ⟨rfl, _, rfl, ?_⟩⟩
  rw [isN_of rv]
  exact q H1 (Same.refl _)
def isBD : D → D → Option D
  | .bl a, .bl c => some (.bl (decide (a = c)))
  | _, _ => none
def notBD : D → D → Option D
  | .bl a, .bl c => some (.bl (!decide (a = c)))
  | _, _ => none
theorem opd_isB {K : PySem.W.Frag} : OpD K rIsB isBD := by
  intro Γ H x y dx dy d Q al rx ry hd k
  unfold isBD at hd
  split at hd
  · cases hd; exact ⟨_, _, rep_bl rx, rep_bl ry, k _ _ (Same.refl _) .bl⟩
  · cases hd
theorem opd_notB {K : PySem.W.Frag} : OpD K rNotB notBD := by
  intro Γ H x y dx dy d Q al rx ry hd k
  unfold notBD at hd
  split at hd
  · cases hd; exact ⟨_, _, rep_bl rx, rep_bl ry, k _ _ (Same.refl _) .bl⟩
  · cases hd
theorem de_isB (ha : DE b ca W X a fa) (hb : DE b ca W X c fb) : DE b ca W X (.Compare a [.Is] [c] pos) (eBin isBD fa fb) := de_cmp op_isBl opd_isB ha hb (nomark _)
theorem de_notB (ha : DE b ca W X a fa) (hb : DE b ca W X c fb) : DE b ca W X (.Compare a [.IsNot] [c] pos) (eBin notBD fa fb) := de_cmp op_notBl opd_notB ha hb (nomark _)
theorem dt_isB (ha : DE b ca W X a fa) (hb : DE b ca W X c fb) : DT ca W X (.Compare a [.Is] [c] pos) (cB (eBin isBD fa fb)) := dt_cmp op_isBl opd_isB ha hb (nomark _)
theorem dt_notB (ha : DE b ca W X a fa) (hb : DE b ca W X c fb) : DT ca W X (.Compare a [.IsNot] [c] pos) (cB (eBin notBD fa fb)) := dt_cmp op_notBl opd_notB ha hb (nomark _)
/-! ### + -/
def rAddA (K : PySem.W.Frag) : R2 := fun x y H Q => (rI0 fun i j => .int (i + j)) x y H Q ∨ (∃ i j, x = .str i ∧ y = .str j ∧ i.length + j.length ≤ sizeLine ∧ Q (.str (i ++ j)) H) ∨ rCatA K x y H Q ∨ rCat x y H Q
theorem opd_add {K : PySem.W.Frag} : OpD K (rAddA K) addD := by
  intro Γ H x y dx dy d Q al rx ry hd k
  unfold addD at hd
  split at hd
  · cases hd; exact .inl ⟨_, _, rep_int rx, rep_int ry, k _ _ (Same.refl _) .int⟩
  · split at hd
    · rename_i hl
      cases hd
      exact .inr (.inl ⟨_, _, rep_str rx, rep_str ry, hl, k _ _ (Same.refl _) .str⟩)
    · cases hd
  · split at hd
    · rename_i xs ys hl
      cases hd
      unfold Rep at rx ry
      obtain ⟨p, vs, rfl, hp, tx⟩ := rx
      obtain ⟨q, us, rfl, hq, ty⟩ := ry
      have lx := tx.length
      have ly := ty.length
      refine .inr (.inr (.inl ⟨p, q, vs, us, rfl, rfl, hp, hq, by omega, fun z => ?_, fun _ z => ?_, fun _ _ l hl => ?_⟩))
      · refine k _ _ (Same.refl _) ?_
        subst z
        have : xs = [] := List.eq_nil_of_length_eq_zero lx.symm
        subst this
        unfold Rep; exact ⟨q, us, rfl, hq, ty⟩
      · refine k _ _ (Same.refl _) ?_
        subst z
        have : ys = [] := List.eq_nil_of_length_eq_zero ly.symm
        subst this
        unfold Rep; exact ⟨p, vs, rfl, hp, by rw [List.append_nil]; exact tx⟩
      · refine k _ _ (same_new hl) ?_
        unfold Rep
        exact ⟨l, _, rfl, SqT.of upd_same, (tx.append ty).same (same_new hl)⟩
    · cases hd
  · split at hd
    · rename_i xs ys hl
      cases hd
      unfold Rep at rx ry
      obtain ⟨p, vs, rfl, hp, _, tx⟩ := rx
      obtain ⟨q, us, rfl, hq, _, ty⟩ := ry
      have lx := tx.length
      have ly := ty.length
      refine .inr (.inr (.inr ⟨p, q, vs, us, rfl, rfl, hp, hq, by omega, fun l hl => k _ _ (same_new hl) ?_⟩))
      unfold Rep
      have ho : Γ.own l = none := by
        cases z : Γ.own l with
        | none => rfl
        | some j => exact absurd hl (al l (by rw [z]; exact fun y => nomatch y))
      exact ⟨l, _, rfl, upd_same, ho, (tx.append ty).same (same_new hl)⟩
    · cases hd
  · cases hd
theorem de_add (ha : DE b ca W X a fa) (hb : DE b ca W X c fb) : DE b ca W X (.BinOp a .Add c pos) (eBin addD fa fb) := de_bin (op_add.or (op_add_str.or (op_catA.or op_cat))) opd_add ha hb
/-! ### x[i] -/
def ixD : D → D → Option D
  | .tup ds, .int i => atI ds i
  | .lst ds, .int i => atI ds i
  | .scr ns, .int i => (atI ns i).map D.int
  | .str x, .int i => if x.length ≤ sizeLine then (atI x.cps.toList i).map fun c => .str ⟨#[c]⟩ else none
  | _, _ => none
theorem atI_rep {K : PySem.W.Frag} {Γ : Gm} {H : Hp} {ds : List D} {vs : List V} {i : Int} {d : D} (r : RepL K Γ H ds vs) (h : atI ds i = some d) : ∃ v, atI vs i = some v ∧ Rep K Γ H d v := by
  unfold atI at h ⊢
  rw [r.length]
  cases q : ixN ds.length i with
  | none => rw [q] at h; cases h
  | some j => rw [q] at h; exact r.get h
theorem atI_map {α β : Type} (f : α → β) (xs : List α) (i : Int) : atI (xs.map f) i = (atI xs i).map f := by
  unfold atI
  rw [List.length_map]
  cases ixN xs.length i with
  | none => rfl
  | some j => simp
theorem opd_ix {K : PySem.W.Frag} : OpD K (rIx K) ixD := by
  intro Γ H x y dx dy d Q al rx ry hd k
  unfold ixD at hd
  split at hd
  · unfold Rep at rx
    obtain ⟨p, vs, rfl, hp, t⟩ := rx
    obtain ⟨v, hv, rv⟩ := atI_rep t hd
    exact .inr (.inl ⟨p, vs, _, v, rfl, rep_int ry, hp, hv, k _ _ (Same.refl _) rv⟩)
  · unfold Rep at rx
    obtain ⟨p, vs, rfl, hp, _, t⟩ := rx
    obtain ⟨v, hv, rv⟩ := atI_rep t hd
    exact .inl ⟨p, vs, _, v, rfl, rep_int ry, SqL.of hp, hv, k _ _ (Same.refl _) rv⟩
  · rename_i ns i
    unfold Rep at rx
    obtain ⟨p, rfl, hp⟩ := rx
    cases q : atI ns i with
    | none => rw [q] at hd; cases hd
    | some m =>
      rw [q] at hd; cases hd
      exact .inl ⟨p, _, i, .int m, rfl, rep_int ry, scr_sql hp, by rw [atI_map, q]; rfl, k _ _ (Same.refl _) .int⟩
  · rename_i z i
    split at hd
    · rename_i hl
      cases q : atI z.cps.toList i with
      | none => rw [q] at hd; cases hd
      | some m =>
        rw [q] at hd; cases hd
        exact .inr (.inr ⟨z, i, m, rep_str rx, rep_int ry, hl, q, k _ _ (Same.refl _) .str⟩)
    · cases hd
  · cases hd
theorem de_ix (ha : DE b ca W X a fa) (hb : DE b ca W X c fb) (hs : PlainIx c := by exact fun _ _ => rfl) : DE b ca W X (.Subscript a c pos) (eBin ixD fa fb) :=
  pe_imp (pe_ix ix_seq ha hb hs) fun σ H Q h => bin_tOf opd_ix h
/-! ### built-ins by values -/
def FnV (K : PySem.W.Frag) (r : List V → Hp → VK → Prop) (g : List D → Option D) : Prop := ∀ (Γ : Gm) (H : Hp) (xs : List V) (ds : List D) (d : D) (Q : VK), (∀ p, Γ.own p ≠ none → H p ≠ none) → RepL K Γ H ds xs → g ds = some d → (∀ v H', Same H H' → Rep K Γ H' d v → Q v H') → r xs H Q
def eFn (g : List D → Option D) (fs : List (En → Rz D)) : En → Rz D := fun e => (evs fs e).bind fun ds => Rz.ofO (g ds)
theorem de_bltn {id : String} {r : List V → Hp → VK → Prop} {g : List D → Option D} {x : Str} {p : Pos} {es : List Expr} {fs : List (En → Rz D)} (hc : CallR X (.builtin id) r) (k : FnV X.K r g) (hm : X.mg x = none) (hv : bootBuiltins x = some (.builtin id)) (ha : DA b ca W X (a :: es) fs) (hg : Gl X x := by rfl)
    (hn : x ≠ "__name__" := by decide) (hdb : (x == ("__debug__" : Str)) = false := by decide) (he : starEach (a :: es) X.env = (false, eval a X.env) :: starEach es X.env := by rfl) (hpl : (backTo pos (starEach es X.env)).any (·.1) = false := by rfl) :
    DE b ca W X (.Call (.Name x p) (a :: es) [] pos) (eFn g fs) := by
  refine pe_imp (pe_callB hc hg hm hv ha hn hdb he hpl) fun σ H Q ⟨Γ, e, r, h⟩ => ⟨Γ, e, r, h.bind.imp fun ds H1 s q vs rv => ?_⟩
  obtain ⟨d, hd, q⟩ := q.ofO
  exact k (gmb b Γ) H1 vs ds d Q (gmb_al (r.same s).al) rv hd fun v H' s' rv' => q H' s' v rv'
theorem de_ty {T : String} {r : List V → Hp → VK → Prop} {g : List D → Option D} {x : Str} {p : Pos} {es : List Expr} {fs : List (En → Rz D)} (hc : CallR X (.type T) r) (k : FnV X.K r g) (hm : X.mg x = none) (hv : bootBuiltins x = some (.type T)) (ha : DA b ca W X (a :: es) fs) (hg : Gl X x := by rfl)
    (hn : x ≠ "__name__" := by decide) (hdb : (x == ("__debug__" : Str)) = false := by decide) (he : starEach (a :: es) X.env = (false, eval a X.env) :: starEach es X.env := by rfl) (hpl : (backTo pos (starEach es X.env)).any (·.1) = false := by rfl) :
    DE b ca W X (.Call (.Name x p) (a :: es) [] pos) (eFn g fs) := by
  refine pe_imp (pe_callTy hc hg hm hv ha hn hdb he hpl) fun σ H Q ⟨Γ, e, r, h⟩ => ⟨Γ, e, r, h.bind.imp fun ds H1 s q vs rv => ?_⟩
  obtain ⟨d, hd, q⟩ := q.ofO
  exact k (gmb b Γ) H1 vs ds d Q (gmb_al (r.same s).al) rv hd fun v H' s' rv' => q H' s' v rv'
theorem repL1 {K : PySem.W.Frag} {Γ : Gm} {H : Hp} {d : D} {vs : List V} (h : RepL K Γ H [d] vs) : ∃ v, vs = [v] ∧ Rep K Γ H d v := by
  unfold RepL at h
  obtain ⟨v, r, rfl, h1, h2⟩ := h
  unfold RepL at h2
  subst h2
  exact ⟨v, rfl, h1⟩
theorem repL2 {K : PySem.W.Frag} {Γ : Gm} {H : Hp} {d d' : D} {vs : List V} (h : RepL K Γ H [d, d'] vs) : ∃ v v', vs = [v, v'] ∧ Rep K Γ H d v ∧ Rep K Γ H d' v' := by
  unfold RepL at h
  obtain ⟨v, r, rfl, h1, h2⟩ := h
  obtain ⟨v', rfl, h3⟩ := repL1 h2
  exact ⟨v, v', rfl, h1, h3⟩
def lenD : List D → Option D
  | [.tup ds] => some (.int ds.length)
  | [.lst ds] => some (.int ds.length)
  | [.scr ns] => some (.int ns.length)
  | [.str x] => if x.length ≤ sizeLine then some (.int x.length) else none
  | _ => none
theorem fnv_len {K : PySem.W.Frag} : FnV K (fun xs H Q => (∃ p ys, xs = [.ref p] ∧ (SqL K H p ys ∨ SqT K H p ys) ∧ Q (.int ys.length) H) ∨ ∃ z, xs = [.str z] ∧ z.length ≤ sizeLine ∧ Q (.int z.length) H) lenD := by
  intro Γ H xs ds d Q al r hd k
  unfold lenD at hd
  split at hd
  · cases hd
    obtain ⟨v, rfl, rv⟩ := repL1 r
    unfold Rep at rv
    obtain ⟨p, vs, rfl, hp, t⟩ := rv
    exact .inl ⟨p, vs, rfl, .inr hp, by rw [t.length]; exact k _ _ (Same.refl _) .int⟩
  · cases hd
    obtain ⟨v, rfl, rv⟩ := repL1 r
    unfold Rep at rv
    obtain ⟨p, vs, rfl, hp, _, t⟩ := rv
    exact .inl ⟨p, vs, rfl, .inl (SqL.of hp), by rw [t.length]; exact k _ _ (Same.refl _) .int⟩
  · cases hd
    obtain ⟨v, rfl, rv⟩ := repL1 r
    unfold Rep at rv
    obtain ⟨p, rfl, hp⟩ := rv
    exact .inl ⟨p, _, rfl, .inl (scr_sql hp), by rw [List.length_map]; exact k _ _ (Same.refl _) .int⟩
  · split at hd
    · rename_i hl
      cases hd
      obtain ⟨v, rfl, rv⟩ := repL1 r
      exact .inr ⟨_, by rw [rep_str rv], hl, k _ _ (Same.refl _) .int⟩
    · cases hd
  · cases hd
theorem de_len {p : Pos} (hm : X.mg "len" = none) (ha : DE b ca W X a fa) (hg : Gl X "len" := by rfl) (he : starEach [a] X.env = (false, eval a X.env) :: starEach [] X.env := by rfl) (hpl : (backTo pos (starEach [] X.env)).any (·.1) = false := by rfl) : DE b ca W X (.Call (.Name "len" p) [a] [] pos) (eFn lenD [fa]) :=
  de_bltn (call_len_seq.or call_len_str) fnv_len hm PySem.boot_len (da_cons ha da_nil he) hg (by decide) (by decide) he hpl
def absD : List D → Option D
  | [.int i] => some (.int (if i < 0 then -i else i))
  | _ => none
theorem de_abs {p : Pos} (hm : X.mg "abs" = none) (ha : DE b ca W X a fa) (hg : Gl X "abs" := by rfl) (he : starEach [a] X.env = (false, eval a X.env) :: starEach [] X.env := by rfl) (hpl : (backTo pos (starEach [] X.env)).any (·.1) = false := by rfl) : DE b ca W X (.Call (.Name "abs" p) [a] [] pos) (eFn absD [fa]) := by
  refine de_bltn call_abs ?_ hm (by decide +kernel) (da_cons ha da_nil he) hg (by decide) (by decide) he hpl
  intro Γ H xs ds d Q al r hd k
  unfold absD at hd
  split at hd
  · cases hd
    obtain ⟨v, rfl, rv⟩ := repL1 r
    exact ⟨_, by rw [rep_int rv], k _ _ (Same.refl _) .int⟩
  · cases hd
def min2D : List D → Option D
  | [.int i, .int j] => some (.int (if j < i then j else i))
  | _ => none
def max2D : List D → Option D
  | [.int i, .int j] => some (.int (if j > i then j else i))
  | _ => none
theorem de_min2 {p : Pos} (hc : X.calm = true) (hm : X.mg "min" = none) (ha : DE b ca W X a fa) (hb : DE b ca W X c fb) (hg : Gl X "min" := by rfl) (he : starEach [a, c] X.env = (false, eval a X.env) :: starEach [c] X.env := by rfl) (he2 : starEach [c] X.env = (false, eval c X.env) :: starEach [] X.env := by rfl) (hpl : (backTo pos (starEach [c] X.env)).any (·.1) = false := by rfl) : DE b ca W X (.Call (.Name "min" p) [a, c] [] pos) (eFn min2D [fa, fb]) := by
  refine de_bltn (call_min2 hc) ?_ hm (by decide +kernel) (da_cons ha (da_cons hb da_nil he2) he) hg (by decide) (by decide) he hpl
  intro Γ H xs ds d Q al r hd k
  unfold min2D at hd
  split at hd
  · cases hd
    obtain ⟨v, v', rfl, rv, rv'⟩ := repL2 r
    exact ⟨_, _, by rw [rep_int rv, rep_int rv'], k _ _ (Same.refl _) .int⟩
  · cases hd
theorem de_max2 {p : Pos} (hc : X.calm = true) (hm : X.mg "max" = none) (ha : DE b ca W X a fa) (hb : DE b ca W X c fb) (hg : Gl X "max" := by rfl) (he : starEach [a, c] X.env = (false, eval a X.env) :: starEach [c] X.env := by rfl) (he2 : starEach [c] X.env = (false, eval c X.env) :: starEach [] X.env := by rfl) (hpl : (backTo pos (starEach [c] X.env)).any (·.1) = false := by rfl) : DE b ca W X (.Call (.Name "max" p) [a, c] [] pos) (eFn max2D [fa, fb]) := by
  refine de_bltn (call_max2 hc) ?_ hm (by decide +kernel) (da_cons ha (da_cons hb da_nil he2) he) hg (by decide) (by decide) he hpl
  intro Γ H xs ds d Q al r hd k
  unfold max2D at hd
  split at hd
  · cases hd
    obtain ⟨v, v', rfl, rv, rv'⟩ := repL2 r
    exact ⟨_, _, by rw [rep_int rv, rep_int rv'], k _ _ (Same.refl _) .int⟩
  · cases hd
def intD : List D → Option D
  | [.int i] => some (.int i)
  | [.bl k] => some (.int (if k then 1 else 0))
  | _ => none
theorem de_int1 {p : Pos} (hm : X.mg "int" = none) (ha : DE b ca W X a fa) (hg : Gl X "int" := by rfl) (he : starEach [a] X.env = (false, eval a X.env) :: starEach [] X.env := by rfl) (hpl : (backTo pos (starEach [] X.env)).any (·.1) = false := by rfl) : DE b ca W X (.Call (.Name "int" p) [a] [] pos) (eFn intD [fa]) := by
  refine de_ty call_int1 ?_ hm (by decide +kernel) (da_cons ha da_nil he) hg (by decide) (by decide) he hpl
  intro Γ H xs ds d Q al r hd k
  unfold intD at hd
  split at hd
  · cases hd
    obtain ⟨v, rfl, rv⟩ := repL1 r
    exact .inl ⟨_, by rw [rep_int rv], k _ _ (Same.refl _) .int⟩
  · cases hd
    obtain ⟨v, rfl, rv⟩ := repL1 r
    exact .inr ⟨_, by rw [rep_bl rv], k _ _ (Same.refl _) .int⟩
  · cases hd
/-- tuple(x) -/
def tupD : List D → Option D
  | [.tup ds] => some (.tup ds)
  | [.lst ds] => some (.tup ds)
  | _ => none
theorem de_tuple {p : Pos} (hm : X.mg "tuple" = none) (ha : DE b ca W X a fa) (hg : Gl X "tuple" := by rfl) (he : starEach [a] X.env = (false, eval a X.env) :: starEach [] X.env := by rfl) (hpl : (backTo pos (starEach [] X.env)).any (·.1) = false := by rfl) : DE b ca W X (.Call (.Name "tuple" p) [a] [] pos) (eFn tupD [fa]) := by
  refine de_ty call_tuple_of ?_ hm (by decide +kernel) (da_cons ha da_nil he) hg (by decide) (by decide) he hpl
  intro Γ H xs ds d Q al r hd k
  unfold tupD at hd
  split at hd
  · cases hd
    obtain ⟨v, rfl, rv⟩ := repL1 r
    have rv' := rv
    unfold Rep at rv
    obtain ⟨p, vs, rfl, hp, t⟩ := rv
    exact ⟨p, vs, rfl, .inr ⟨hp, k _ _ (Same.refl _) rv'⟩⟩
  · cases hd
    obtain ⟨v, rfl, rv⟩ := repL1 r
    unfold Rep at rv
    obtain ⟨p, vs, rfl, hp, _, t⟩ := rv
    refine ⟨p, vs, rfl, .inl ⟨SqL.of hp, fun l hl => k _ _ (same_new hl) ?_⟩⟩
    unfold Rep
    exact ⟨l, vs, rfl, SqT.of upd_same, t.same (same_new hl)⟩
  · cases hd
/-! ### methods that write a slot's own list -/
variable {Φ : Fm}
def sApp (i : Nat) (f : En → Rz D) : En → SR := fun e => match e.v i with
  | .own ds => onR (f e) e fun d => if ds.length < sizeLine then .next (e.set i (.own (ds ++ [d]))) else .bad
  | _ => .bad
theorem ds_app {i : Nat} {x : Str} {pos p1 apos cpos : Pos} (ha : DE true ca W X a fa) (hN : X.N[i]? = some x := by rfl) (hv : Vis X.env.scope x := by first | exact Or.inl rfl | exact Or.inr (Or.inl rfl) | exact Or.inr (Or.inr rfl))
    (hd : (x == ("__debug__" : Str)) = false := by decide) (hcd : (x == ("__classdict__" : Str)) = false := by decide)
    (hbase : attributeBase (.Name x p1) "append" X.env (eval (.Name x p1) X.env) = eval (.Name x p1) X.env := by rfl)
    (hfew : ((backTo cpos (starEach [a] X.env)).all (fun x => !x.1) && (backToKw cpos (keywordEach [] X.env)).all (fun x => x.1.isSome)
      && decide ([a].length + ([] : List Keyword).length + (if ([] : List Keyword).isEmpty then 0 else 1) < 30)) = true := by rfl)
    (hline : (apos.endLine == cpos.line) = true := by rfl) (hs : starEach [a] X.env = (false, eval a X.env) :: starEach [] X.env := by rfl) (hplain : (backTo cpos (starEach [] X.env)).any (·.1) = false := by rfl)
    (hsw : swapsWith (.Call (.Attribute (.Name x p1) "append" apos) [a] [] cpos) none pos.line X.env = pure false := by rfl) : DS ca W Φ X (.Expr (.Call (.Attribute (.Name x p1) "append" apos) [a] [] cpos) pos) (sApp i fa) := by
  refine ps_imp (ps_expr (pe_bm PySem.F.plainAttrs_list PySem.F.slot_list_append PySem.F.type_list_append mt_append (pe_var hN hv hd hcd) (pa_cons ha pa_nil hs) hbase hfew hline hs hplain) hsw) fun E σ H ⟨Γ, e, r, k⟩ => ?_
  unfold sApp at k
  cases q : e.v i with
  | own ds =>
    rw [q] at k
    dsimp only at k
    obtain ⟨p, vs, e1, e2, e3, rp⟩ := r.r.getO q
    refine ⟨.ref p, e1, .inl ⟨rfl, vs, SqL.of e2⟩, ⟨Γ, e, r.r, r.out k fun d H' s r' k v rv => ?_⟩⟩
    have rp' := rp.same s
    by_cases hl : ds.length < sizeLine
    · rw [if_pos hl] at k
      refine ⟨p, vs, v, rfl, rfl, s _ _ e2, by rw [rp.length]; exact hl, ?_⟩
      have hne : Γ.own p ≠ none := by rw [e3]; exact fun z => nomatch z
      exact k Γ σ _ (r'.wrOwn (gt_len hN) e3 e1 (s _ _ e2) (rp'.append (.cons rv .nil))) (.wr hne (s _ _ e2))
    · rw [if_neg hl] at k; exact k.elim
  | un => rw [q] at k; exact k.elim
  | val d => rw [q] at k; exact k.elim
end
end G
set_option Elab.async false
set_option linter.all false
set_option maxRecDepth 100000
set_option maxHeartbeats 4000000
namespace G
open PySem PySem.Spec PyProof.Rows L2
/-! ### the law's end -/
theorem sp_law {K : PySem.W.Frag} {ca : Nat → Addr} {F : List D → Rz D} (hF : ∀ ns : List Int, ns.length ≤ 63 → F [.scr ns] = .ok (.bl true)) {H : Hp} {a : Addr} {ns : List Int} (hl : ns.length ≤ 63) (hS : SqL K H a (ns.map V.int)) :
    spOf K ca 1 F [.ref a] H (fun v _ => v = .bl true) (fun _ _ _ => False) := by
  refine ⟨rfl, ⟨fun _ => none, fun _ => none⟩, [.scr ns], fun p h => absurd rfl h, .cons ?_ .nil, ?_⟩
  · unfold Rep
    refine ⟨a, rfl, ?_⟩
    rcases hS with h | h
    · exact .inl ⟨h, rfl⟩
    · exact .inr h
  · rw [hF ns hl]
    exact fun v H' _ r => rep_bl r
theorem cx_no {P : Program} {w : World} {outer : List PySem.Env} {H : Hp} {s : Shared} {e : Value} {s' : Shared} (h : L2N.CX P w outer H s (fun _ _ _ => False) e s') : False := by
  obtain ⟨_, _, _, _, _, _, _, _, _, _, _, _, z⟩ := h
  exact z

/-! ### reckoning -/
@[simp] theorem ev_C (d : D) (e : En) : eC d e = .ok d := (rfl)
@[simp] theorem ev_Var (i : Nat) (e : En) : eVar i e = match e.v i with | .val d => .ok d | _ => .bad := (rfl)
@[simp] theorem ev_Bor (i : Nat) (e : En) : eBor i e = match e.v i with | .val d => .ok d | .own ds => .ok (.lst ds) | .un => .bad := (rfl)
@[simp] theorem ev_Nl (f : En → Rz D) (e : En) : eNl f e = (f e).bind fun d => if d.nol = true then .ok d else .bad := (rfl)
@[simp] theorem ev_Bin (g : D → D → Option D) (f h : En → Rz D) (e : En) : eBin g f h e = (f e).bind fun x => (h e).bind fun y => Rz.ofO (g x y) := (rfl)
@[simp] theorem ev_Tup (fs : List (En → Rz D)) (e : En) : eTup fs e = (evs fs e).bind fun ds => .ok (.tup ds) := (rfl)
@[simp] theorem ev_L (f : En → Rz (List D)) (e : En) : eL f e = (f e).bind fun ds => .ok (.lst ds) := (rfl)
@[simp] theorem ev_Fn (g : List D → Option D) (fs : List (En → Rz D)) (e : En) : eFn g fs e = (evs fs e).bind fun ds => Rz.ofO (g ds) := (rfl)
@[simp] theorem ev_Call (F : List D → Rz D) (fs : List (En → Rz D)) (e : En) : eCall F fs e = (evs fs e).bind F := (rfl)
@[simp] theorem ev_nil (e : En) : evs [] e = .ok [] := (rfl)
@[simp] theorem ev_cons (f : En → Rz D) (fs : List (En → Rz D)) (e : En) : evs (f :: fs) e = (f e).bind fun d => (evs fs e).bind fun ds => .ok (d :: ds) := (rfl)
@[simp] theorem ev_If (c : En → Rz Bool) (f g : En → Rz D) (e : En) : eIf c f g e = (c e).bind fun k => if k = true then f e else g e := (rfl)
@[simp] theorem ev_And (f g : En → Rz D) (e : En) : eAnd f g e = (f e).bind fun d => (toB d).bind fun c => if c = true then g e else .ok (.bl false) := (rfl)
@[simp] theorem ev_Or (f g : En → Rz D) (e : En) : eOr f g e = (f e).bind fun d => (toB d).bind fun c => if c = true then .ok (.bl true) else g e := (rfl)
@[simp] theorem ev_Not (f : En → Rz D) (e : En) : eNot f e = (f e).bind fun d => (toB d).bind fun c => .ok (.bl (!c)) := (rfl)
@[simp] theorem ev_cAnd (f g : En → Rz Bool) (e : En) : cAnd f g e = (f e).bind fun c => if c = true then g e else .ok false := (rfl)
@[simp] theorem ev_cOr (f g : En → Rz Bool) (e : En) : cOr f g e = (f e).bind fun c => if c = true then .ok true else g e := (rfl)
@[simp] theorem ev_cNot (f : En → Rz Bool) (e : En) : cNot f e = (f e).bind fun c => .ok (!c) := (rfl)
@[simp] theorem ev_cB (f : En → Rz D) (e : En) : cB f e = (f e).bind toB := (rfl)
@[simp] theorem ev_cTr (f : En → Rz D) (e : En) : cTr f e = (f e).bind trD := (rfl)
@[simp] theorem ev_toB (c : Bool) : toB (.bl c) = .ok c := (rfl)
@[simp] theorem ev_IsN (f : En → Rz D) (e : En) : eIsN f e = (f e).bind fun d => .ok (.bl (isN d)) := (rfl)
@[simp] theorem ev_NotN (f : En → Rz D) (e : En) : eNotN f e = (f e).bind fun d => .ok (.bl (!isN d)) := (rfl)
@[simp] theorem ev_isN_non : isN .non = true := (rfl)
@[simp] theorem ev_isN_int (i : Int) : isN (.int i) = false := (rfl)
@[simp] theorem ev_isN_str (x : Str) : isN (.str x) = false := (rfl)
@[simp] theorem ev_isN_tup (ds : List D) : isN (.tup ds) = false := (rfl)
@[simp] theorem ev_isN_bl (c : Bool) : isN (.bl c) = false := (rfl)
@[simp] theorem ev_MulL (k : Int) (f : En → Rz D) (e : En) : eMulL k f e = (f e).bind fun d => match d with | .int i => .ok (.int (k * i)) | _ => .bad := (rfl)
@[simp] theorem ev_MulR (k : Int) (f : En → Rz D) (e : En) : eMulR k f e = (f e).bind fun d => match d with | .int i => .ok (.int (i * k)) | _ => .bad := (rfl)
@[simp] theorem ev_DivC (k : Int) (f : En → Rz D) (e : En) : eDivC k f e = (f e).bind fun d => match d with | .int i => .ok (.int (i / k)) | _ => .bad := (rfl)
@[simp] theorem ev_ModC (k : Int) (f : En → Rz D) (e : En) : eModC k f e = (f e).bind fun d => match d with | .int i => .ok (.int (i % k)) | _ => .bad := (rfl)
@[simp] theorem ev_Neg (f : En → Rz D) (e : En) : eNeg f e = (f e).bind fun d => match d with | .int i => .ok (.int (-i)) | _ => .bad := (rfl)
@[simp] theorem ev_addI (i j : Int) : addD (.int i) (.int j) = some (.int (i + j)) := (rfl)
@[simp] theorem ev_subI (i j : Int) : subD (.int i) (.int j) = some (.int (i - j)) := (rfl)
@[simp] theorem ev_ltI (i j : Int) : ltD (.int i) (.int j) = some (.bl (decide (i < j))) := (rfl)
@[simp] theorem ev_leI (i j : Int) : leD (.int i) (.int j) = some (.bl (decide (i ≤ j))) := (rfl)
@[simp] theorem ev_gtI (i j : Int) : gtD (.int i) (.int j) = some (.bl (decide (j < i))) := (rfl)
@[simp] theorem ev_geI (i j : Int) : geD (.int i) (.int j) = some (.bl (decide (j ≤ i))) := (rfl)
@[simp] theorem ev_eqI (i j : Int) : eqD (.int i) (.int j) = some (.bl (i == j)) := (rfl)
@[simp] theorem ev_neI (i j : Int) : neD (.int i) (.int j) = some (.bl (!(i == j))) := (rfl)
@[simp] theorem ev_eqS (i j : Str) : eqD (.str i) (.str j) = some (.bl (i == j)) := (rfl)
@[simp] theorem ev_neS (i j : Str) : neD (.str i) (.str j) = some (.bl (!(i == j))) := (rfl)
@[simp] theorem ev_eqN : eqD .non .non = some (.bl true) := (rfl)
@[simp] theorem ev_neN : neD .non .non = some (.bl false) := (rfl)
@[simp] theorem ev_eqNI (i : Int) : eqD .non (.int i) = some (.bl false) := (rfl)
@[simp] theorem ev_neNI (i : Int) : neD .non (.int i) = some (.bl true) := (rfl)
@[simp] theorem ev_eqIN (i : Int) : eqD (.int i) .non = some (.bl false) := (rfl)
@[simp] theorem ev_neIN (i : Int) : neD (.int i) .non = some (.bl true) := (rfl)
@[simp] theorem ev_eqB (i j : Bool) : eqD (.bl i) (.bl j) = some (.bl (i == j)) := (rfl)
@[simp] theorem ev_neB (i j : Bool) : neD (.bl i) (.bl j) = some (.bl (!(i == j))) := (rfl)
@[simp] theorem ev_isB (i j : Bool) : isBD (.bl i) (.bl j) = some (.bl (decide (i = j))) := (rfl)
@[simp] theorem ev_notB (i j : Bool) : notBD (.bl i) (.bl j) = some (.bl (!decide (i = j))) := (rfl)
def ab (i : Int) : Int := if i < 0 then -i else i
@[simp] theorem ev_absI (i : Int) : absD [.int i] = some (.int (ab i)) := (rfl)
@[simp] theorem ev_min2 (i j : Int) : min2D [.int i, .int j] = some (.int (if j < i then j else i)) := (rfl)
@[simp] theorem ev_max2 (i j : Int) : max2D [.int i, .int j] = some (.int (if j > i then j else i)) := (rfl)
@[simp] theorem ev_lenT (ds : List D) : lenD [.tup ds] = some (.int ds.length) := (rfl)
@[simp] theorem ev_lenL (ds : List D) : lenD [.lst ds] = some (.int ds.length) := (rfl)
@[simp] theorem ev_lenS (ns : List Int) : lenD [.scr ns] = some (.int ns.length) := (rfl)
@[simp] theorem ev_tupL (ds : List D) : tupD [.lst ds] = some (.tup ds) := (rfl)
@[simp] theorem ev_tupT (ds : List D) : tupD [.tup ds] = some (.tup ds) := (rfl)
@[simp] theorem ev_intI (i : Int) : intD [.int i] = some (.int i) := (rfl)
@[simp] theorem ev_intB (k : Bool) : intD [.bl k] = some (.int (if k then 1 else 0)) := (rfl)
@[simp] theorem ev_ixT (ds : List D) (i : Int) : ixD (.tup ds) (.int i) = atI ds i := (rfl)
@[simp] theorem ev_ixL (ds : List D) (i : Int) : ixD (.lst ds) (.int i) = atI ds i := (rfl)
@[simp] theorem ev_ixS (ns : List Int) (i : Int) : ixD (.scr ns) (.int i) = (atI ns i).map D.int := (rfl)
@[simp] theorem at0 {α : Type} (a : α) (l : List α) : atI (a :: l) 0 = some a := atI_nat (j := 0) rfl
@[simp] theorem at1 {α : Type} (a b : α) (l : List α) : atI (a :: b :: l) 1 = some b := atI_nat (j := 1) rfl
@[simp] theorem at2 {α : Type} (a b c : α) (l : List α) : atI (a :: b :: c :: l) 2 = some c := atI_nat (j := 2) rfl
@[simp] theorem at3 {α : Type} (a b c d : α) (l : List α) : atI (a :: b :: c :: d :: l) 3 = some d := atI_nat (j := 3) rfl
@[simp] theorem atM1 {α : Type} (l : List α) (a : α) : atI (l ++ [a]) (-1) = some a := atI_last l a
theorem at_nat {α : Type} (l : List α) (i : Int) (h : 0 ≤ i) (h2 : i < l.length) : atI l i = some (l[i.toNat]'(by omega)) := by
  unfold atI ixN
  rw [if_pos h, if_pos h2]
  simp
theorem mul_ok {i j : Int} (h : (-(2 ^ 64) < i ∧ i < 2 ^ 64) ∨ (-(2 ^ 64) < j ∧ j < 2 ^ 64)) : mulD (.int i) (.int j) = some (.int (i * j)) := by
  show (if _ then _ else _) = _
  rw [if_pos h]
theorem fdiv_ok {i j : Int} (h : 0 < j) (h2 : j < 2 ^ 100) : fdivD (.int i) (.int j) = some (.int (i / j)) := by
  show (if _ then _ else _) = _
  rw [if_pos ⟨h, h2⟩]
theorem mod_ok {i j : Int} (h : 0 < j) : modD (.int i) (.int j) = some (.int (i % j)) := by
  show (if _ then _ else _) = _
  rw [if_pos h]
@[simp] theorem ev_seq (g h : En → SR) (e : En) : sSeq g h e = match g e with | .next e' => h e' | r => r := (rfl)
@[simp] theorem ev_set (i : Nat) (f : En → Rz D) (e : En) : sSet i f e = onR (f e) e fun d => .next (e.set i (.val d)) := (rfl)
@[simp] theorem ev_own (i : Nat) (f : En → Rz (List D)) (e : En) : sOwn i f e = onR (f e) e fun ds => .next (e.set i (.own ds)) := (rfl)
@[simp] theorem ev_ret (f : En → Rz D) (e : En) : sRet f e = onR (f e) e fun d => .ret d e := (rfl)
@[simp] theorem ev_drop (f : En → Rz D) (e : En) : sDrop f e = onR (f e) e fun _ => .next e := (rfl)
@[simp] theorem ev_sIf (c : En → Rz Bool) (g h : En → SR) (e : En) : sIf c g h e = onR (c e) e fun k => if k = true then g e else h e := (rfl)
@[simp] theorem ev_for (f : En → Rz (List D)) (p : Pat) (h : En → SR) (e : En) : sFor f p h e = onR (f e) e fun ds => forGo p h ds e := (rfl)
@[simp] theorem ev_frz (i : Nat) (g : En → SR) (e : En) : sFrz i g e = g (e.frz i) := (rfl)
@[simp] theorem ev_asg (p : Pat) (f : En → Rz D) (e : En) : sAsg p f e = onR (f e) e fun d => onO (p.bindD d) fun l => .next (e.sets l) := (rfl)
@[simp] theorem ev_par2 (i j : Nat) (m1 m2 : En → Rz SV) (e : En) : sPar2 i j m1 m2 e = onR (m1 e) e fun x => onR (m2 e) e fun y => .next ((e.set i x).set j y) := (rfl)
@[simp] theorem ev_par3 (i j l : Nat) (m1 m2 m3 : En → Rz SV) (e : En) : sPar3 i j l m1 m2 m3 e = onR (m1 e) e fun x => onR (m2 e) e fun y => onR (m3 e) e fun z => .next (((e.set i x).set j y).set l z) := (rfl)
@[simp] theorem ev_mVal (f : En → Rz D) (e : En) : mVal f e = (f e).bind fun d => .ok (.val d) := (rfl)
@[simp] theorem ev_mOwn (f : En → Rz (List D)) (e : En) : mOwn f e = (f e).bind fun d => .ok (.own d) := (rfl)
@[simp] theorem ev_app (i : Nat) (f : En → Rz D) (e : En) : sApp i f e = match e.v i with | .own ds => onR (f e) e fun d => if ds.length < sizeLine then .next (e.set i (.own (ds ++ [d]))) else .bad | _ => .bad := (rfl)
@[simp] theorem ev_setv (e : En) (i j : Nat) (x : SV) : (e.set i x).v j = if j = i then x else e.v j := (rfl)
@[simp] theorem ev_sets0 (e : En) : e.sets [] = e := (rfl)
@[simp] theorem ev_sets1 (e : En) (p : Nat × D) (l : List (Nat × D)) : e.sets (p :: l) = (e.set p.1 (.val p.2)).sets l := (rfl)
@[simp] theorem ev_stv (ds : List D) (i : Nat) : (En.st ds).v i = match ds[i]? with | some d => .val d | none => .un := (rfl)
@[simp] theorem ev_bnm (i : Nat) (d : D) : (Pat.nm i).bindD d = some [(i, d)] := by unfold Pat.bindD; rfl
@[simp] theorem ev_btp (ps : List Pat) (ds : List D) : (Pat.tp ps).bindD (.tup ds) = Pat.bindL ps ds := by unfold Pat.bindD; rfl
@[simp] theorem ev_bl0 : Pat.bindL [] [] = some [] := by unfold Pat.bindL; rfl
@[simp] theorem ev_bl1 (p : Pat) (ps : List Pat) (d : D) (ds : List D) : Pat.bindL (p :: ps) (d :: ds) = (p.bindD d).bind fun a => (Pat.bindL ps ds).bind fun b => some (a ++ b) := by rw [Pat.bindL]
@[simp] theorem ev_R1 (f : En → Rz D) (e : En) : iR1 f e = (f e).bind rg1 := (rfl)
@[simp] theorem ev_R2 (f g : En → Rz D) (e : En) : iR2 f g e = (f e).bind fun x => (g e).bind fun y => rg2 x y := (rfl)
@[simp] theorem ev_iL (f : En → Rz D) (e : En) : iL f e = (f e).bind itL := (rfl)
@[simp] theorem ev_iT (f : En → Rz D) (e : En) : iT f e = (f e).bind itT := (rfl)
@[simp] theorem ev_itL (ds : List D) : itL (.lst ds) = .ok ds := (rfl)
@[simp] theorem ev_itT (ds : List D) : itT (.tup ds) = .ok ds := (rfl)
theorem rg1_ok {j : Int} (h : -(2 ^ 62) ≤ j) (h2 : j < 2 ^ 62) : rg1 (.int j) = .ok (rngD 0 j.toNat) := by
  show (if _ then _ else _) = _
  rw [if_pos ⟨h, h2⟩]
theorem rg2_ok {i j : Int} (h : -(2 ^ 62) ≤ i) (h2 : i < 2 ^ 62) (h3 : -(2 ^ 62) ≤ j) (h4 : j < 2 ^ 62) : rg2 (.int i) (.int j) = .ok (rngD i (j - i).toNat) := by
  show (if _ then _ else _) = _
  rw [if_pos ⟨h, h2, h3, h4⟩]
@[simp] theorem ev_forNil (p : Pat) (h : En → SR) (e : En) : forGo p h [] e = .next e := (rfl)
theorem ev_forCons (p : Pat) (h : En → SR) (d : D) (ds : List D) (e : En) : forGo p h (d :: ds) e = onO (p.bindD d) fun l => match h (e.sets l) with
    | .next e2 => forGo p h ds e2
    | .cont e2 => forGo p h ds e2
    | .brk e2 => .next e2
    | r => r := (rfl)
@[simp] theorem ev_nolI (i : Int) : (D.int i).nol = true := (rfl)
@[simp] theorem ev_nolN : D.non.nol = true := (rfl)
@[simp] theorem ev_nolS (x : Str) : (D.str x).nol = true := (rfl)
@[simp] theorem ev_nolB (c : Bool) : (D.bl c).nol = true := (rfl)
@[simp] theorem ev_nolT (ds : List D) : (D.tup ds).nol = D.nolL ds := by rw [D.nol]
@[simp] theorem ev_nolL0 : D.nolL [] = true := by rw [D.nolL]
@[simp] theorem ev_nolL1 (d : D) (ds : List D) : D.nolL (d :: ds) = (d.nol && D.nolL ds) := by rw [D.nolL]
@[simp] theorem ev_cTrue (e : En) : cTrue e = .ok true := (rfl)
theorem frz_val {e : En} {i : Nat} (h : ∀ ds, e.v i ≠ .own ds) : e.frz i = e := by
  unfold En.frz
  cases q : e.v i with
  | own ds => exact absurd q (h ds)
  | _ => rfl
theorem frz_own {e : En} {i : Nat} {ds : List D} (h : e.v i = .own ds) : e.frz i = e.set i (.val (.lst ds)) := by
  unfold En.frz
  rw [h]
/-- behind a block: on to the next turn -/
def Nx (r : SR) (P : En → Prop) : Prop := ∃ e, (r = .next e ∨ r = .cont e) ∧ P e
theorem Nx.seq {g h : En → SR} {e e1 : En} {P : En → Prop} (h1 : g e = .next e1) (h2 : Nx (h e1) P) : Nx (sSeq g h e) P := by
  unfold sSeq; rw [h1]; exact h2
theorem Nx.seqP {g h : En → SR} {e : En} {P Q : En → Prop} (h1 : ∃ e1, g e = .next e1 ∧ Q e1) (h2 : ∀ e1, Q e1 → Nx (h e1) P) : Nx (sSeq g h e) P := by
  obtain ⟨e1, h1, q⟩ := h1
  exact .seq h1 (h2 e1 q)
theorem Nx.set {i : Nat} {f : En → Rz D} {h : En → SR} {e : En} {d : D} {P : En → Prop} (h1 : f e = .ok d) (h2 : Nx (h (e.set i (.val d))) P) : Nx (sSeq (sSet i f) h e) P :=
  .seq (by unfold sSet; rw [h1]; rfl) h2
theorem Nx.set1 {i : Nat} {f : En → Rz D} {e : En} {d : D} {P : En → Prop} (h1 : f e = .ok d) (h2 : P (e.set i (.val d))) : Nx (sSet i f e) P :=
  ⟨_, .inl (by unfold sSet; rw [h1]; rfl), h2⟩
theorem Nx.iff {c : En → Rz Bool} {g h : En → SR} {e : En} {P : En → Prop} (h1 : c e = .ok false) (h2 : Nx (h e) P) : Nx (sSeq (sIf c g SR.next) h e) P :=
  .seq (by unfold sIf; rw [h1]; rfl) h2
theorem Nx.iff1 {c : En → Rz Bool} {g : En → SR} {e : En} {P : En → Prop} (h1 : c e = .ok false) (h2 : P e) : Nx (sIf c g SR.next e) P :=
  ⟨e, .inl (by unfold sIf; rw [h1]; rfl), h2⟩
theorem Nx.ift {c : En → Rz Bool} {g h k : En → SR} {e : En} {P : En → Prop} (h1 : c e = .ok true) (h2 : Nx (sSeq g h e) P) : Nx (sSeq (sIf c g k) h e) P := by
  unfold sSeq at h2 ⊢
  unfold sIf
  rw [h1]
  exact h2
theorem Nx.ife {c : En → Rz Bool} {g h k : En → SR} {e : En} {P : En → Prop} (h1 : c e = .ok false) (h2 : Nx (sSeq k h e) P) : Nx (sSeq (sIf c g k) h e) P := by
  unfold sSeq at h2 ⊢
  unfold sIf
  rw [h1]
  exact h2
/-- a loop whose turns all go on -/
theorem forGo_all {p : Pat} {h : En → SR} {P : En → Prop} : ∀ {ds : List D} {e : En}, P e → (∀ d ∈ ds, ∀ e, P e → ∃ l, p.bindD d = some l ∧ Nx (h (e.sets l)) P) → ∃ e', forGo p h ds e = .next e' ∧ P e'
  | [], e, h0, _ => ⟨e, rfl, h0⟩
  | d :: ds, e, h0, hb => by
    obtain ⟨l, hl, e1, he, h1⟩ := hb d List.mem_cons_self e h0
    obtain ⟨e2, h2, h3⟩ := forGo_all (ds := ds) h1 fun d hd => hb d (List.mem_cons_of_mem _ hd)
    refine ⟨e2, ?_, h3⟩
    rw [ev_forCons, hl, onO_some]
    rcases he with he | he <;> rw [he] <;> exact h2
theorem Nx.for {f : En → Rz (List D)} {p : Pat} {b h : En → SR} {e : En} {ds : List D} {P Q : En → Prop} (h1 : f e = .ok ds) (h0 : Q e) (hb : ∀ d ∈ ds, ∀ e, Q e → ∃ l, p.bindD d = some l ∧ Nx (b (e.sets l)) Q) (h2 : ∀ e, Q e → Nx (h e) P) : Nx (sSeq (sFor f p b) h e) P := by
  obtain ⟨e', h3, h4⟩ := forGo_all h0 hb
  exact .seq (by unfold sFor; rw [h1]; exact h3) (h2 e' h4)
theorem Nx.for1 {f : En → Rz (List D)} {p : Pat} {b : En → SR} {e : En} {ds : List D} {P : En → Prop} (h1 : f e = .ok ds) (h0 : P e) (hb : ∀ d ∈ ds, ∀ e, P e → ∃ l, p.bindD d = some l ∧ Nx (b (e.sets l)) P) : Nx (sFor f p b e) P := by
  obtain ⟨e', h3, h4⟩ := forGo_all h0 hb
  exact ⟨e', .inl (by unfold sFor; rw [h1]; exact h3), h4⟩
theorem mem_rngD {n : Nat} {lo : Int} {d : D} (h : d ∈ rngD lo n) : ∃ i : Nat, i < n ∧ d = .int (lo + i) := by
  obtain ⟨i, hi⟩ := List.getElem?_of_mem h
  obtain ⟨h1, h2⟩ := rngD_get n lo i d hi
  exact ⟨i, h1, h2⟩
theorem forGo_step {p : Pat} {h : En → SR} {d : D} {ds : List D} {e e2 : En} {l : List (Nat × D)} (hb : p.bindD d = some l) (hh : h (e.sets l) = .next e2) : forGo p h (d :: ds) e = forGo p h ds e2 := by
  rw [ev_forCons, hb, onO_some, hh]
theorem forNm_step {i : Nat} {h : En → SR} {d : D} {ds : List D} {e e2 : En} (hh : h (e.set i (.val d)) = .next e2) : forGo (.nm i) h (d :: ds) e = forGo (.nm i) h ds e2 := forGo_step (ev_bnm i d) hh
/-- a block that hands back d -/
def Rt (r : SR) (d : D) : Prop := ∃ e, r = .ret d e
theorem fnD_of {g : En → SR} {ds : List D} {d : D} (h : Rt (g (En.st ds)) d) : fnD g ds = .ok d := by
  obtain ⟨e, h⟩ := h
  unfold fnD; rw [h]
theorem Rt.seq {g h : En → SR} {e e1 : En} {d : D} (h1 : g e = .next e1) (h2 : Rt (h e1) d) : Rt (sSeq g h e) d := by
  unfold sSeq; rw [h1]; exact h2
theorem Rt.now {g h : En → SR} {e : En} {d : D} (h1 : Rt (g e) d) : Rt (sSeq g h e) d := by
  obtain ⟨e1, h1⟩ := h1
  exact ⟨e1, by unfold sSeq; rw [h1]⟩
theorem Rt.set {i : Nat} {f : En → Rz D} {h : En → SR} {e : En} {x d : D} (h1 : f e = .ok x) (h2 : Rt (h (e.set i (.val x))) d) : Rt (sSeq (sSet i f) h e) d :=
  .seq (by unfold sSet; rw [h1]; rfl) h2
theorem Rt.own {i : Nat} {f : En → Rz (List D)} {h : En → SR} {e : En} {x : List D} {d : D} (h1 : f e = .ok x) (h2 : Rt (h (e.set i (.own x))) d) : Rt (sSeq (sOwn i f) h e) d :=
  .seq (by unfold sOwn; rw [h1]; rfl) h2
theorem Rt.for {f : En → Rz (List D)} {p : Pat} {b h : En → SR} {e e1 : En} {ds : List D} {d : D} (h1 : f e = .ok ds) (h2 : forGo p b ds e = .next e1) (h3 : Rt (h e1) d) : Rt (sSeq (sFor f p b) h e) d :=
  .seq (by unfold sFor; rw [h1]; exact h2) h3
theorem Rt.iff {c : En → Rz Bool} {g h : En → SR} {e : En} {d : D} (h1 : c e = .ok false) (h2 : Rt (h e) d) : Rt (sSeq (sIf c g SR.next) h e) d :=
  .seq (by unfold sIf; rw [h1]; rfl) h2
theorem Rt.ift {c : En → Rz Bool} {g h k : En → SR} {e : En} {d : D} (h1 : c e = .ok true) (h2 : Rt (g e) d) : Rt (sSeq (sIf c g k) h e) d :=
  .now (by unfold sIf; rw [h1]; exact h2)
theorem Rt.ret {f : En → Rz D} {e : En} {d : D} (h1 : f e = .ok d) : Rt (sRet f e) d := ⟨e, by unfold sRet; rw [h1]; rfl⟩
theorem Rt.frz {i : Nat} {g : En → SR} {e : En} {d : D} (h : Rt (g (e.frz i)) d) : Rt (sFrz i g e) d := h
theorem lc_ok {fi : En → Rz (List D)} {p : Pat} {c : En → Rz Bool} {f : En → Rz D} {vs : List Nat} {e : En} {ds : List D} (h : fi e = .ok ds) (hl : ds.length ≤ 1000000) : eLc fi p c f vs e = lcGo p c f (wipeE e vs) ds := by
  unfold eLc
  rw [h, Rz.bind_ok, if_pos (show ds.length ≤ lim from hl)]
@[simp] theorem ev_wipe (e : En) (vs : List Nat) (j : Nat) : (wipeE e vs).v j = if j ∈ vs then .un else e.v j := (rfl)
theorem Nx.mono {r : SR} {P Q : En → Prop} (h : Nx r Q) (k : ∀ e, Q e → P e) : Nx r P := by
  obtain ⟨e, h1, h2⟩ := h
  exact ⟨e, h1, k e h2⟩
/-- for over a range, the name alone -/
theorem Nx.rng {f : En → Rz (List D)} {i n : Nat} {lo : Int} {b h : En → SR} {e : En} {P Q : En → Prop} (h1 : f e = .ok (rngD lo n)) (h0 : Q e) (hb : ∀ k : Nat, k < n → ∀ e, Q e → Nx (b (e.set i (.val (.int (lo + k))))) Q) (h2 : ∀ e, Q e → Nx (h e) P) : Nx (sSeq (sFor f (.nm i) b) h e) P :=
  .for h1 h0 (fun d hd e he => by
    obtain ⟨k, hk, rfl⟩ := mem_rngD hd
    exact ⟨_, ev_bnm _ _, hb k hk e he⟩) h2
theorem Nx.rng1 {f : En → Rz (List D)} {i n : Nat} {lo : Int} {b : En → SR} {e : En} {Q : En → Prop} (h1 : f e = .ok (rngD lo n)) (h0 : Q e) (hb : ∀ k : Nat, k < n → ∀ e, Q e → Nx (b (e.set i (.val (.int (lo + k))))) Q) : Nx (sFor f (.nm i) b e) Q :=
  .for1 h1 h0 (fun d hd e he => by
    obtain ⟨k, hk, rfl⟩ := mem_rngD hd
    exact ⟨_, ev_bnm _ _, hb k hk e he⟩)
/-- a law: a loop over a range, then True -/
theorem law_of {g : En → SR} {ns : List Int} (h : ∃ e, g (En.st [.scr ns]) = .ret (.bl true) e) : fnD g [.scr ns] = .ok (.bl true) := fnD_of h
theorem Rt.rng {f : En → Rz (List D)} {i n : Nat} {lo : Int} {b h : En → SR} {e : En} {d : D} {Q : En → Prop} (h1 : f e = .ok (rngD lo n)) (h0 : Q e) (hb : ∀ k : Nat, k < n → ∀ e, Q e → Nx (b (e.set i (.val (.int (lo + k))))) Q) (h2 : ∀ e, Q e → Rt (h e) d) : Rt (sSeq (sFor f (.nm i) b) h e) d := by
  obtain ⟨e', h3, h4⟩ := forGo_all (p := .nm i) (h := b) (ds := rngD lo n) h0 (fun d hd e he => by
    obtain ⟨k, hk, rfl⟩ := mem_rngD hd
    exact ⟨_, ev_bnm _ _, hb k hk e he⟩)
  exact .for h1 h3 (h2 e' h4)
end G
set_option Elab.async false
set_option linter.all false
set_option maxRecDepth 100000
set_option maxHeartbeats 4000000
/-! ### enumerate(tuple) -/
namespace PySem
theorem enumNewG {v : Value} {o : Obj} {H : Heap → Prop} (B : Begins v o H) :
    Meets (Builtin.«enumerate.__new__» ⟨[.type "enumerate", v], []⟩) (fun _ R s => H s.heap ∧ R (.ok (.ret (.ref (s.heap.push o).objs.size)))
        { s with heap := (s.heap.push o).push { cls := .type "enumerate", data := .fields #[.none, .bool false, .ref s.heap.objs.size, rawInt 0, .none, .none] } }) := by
  refine .of_wp fun prog w A R s h => ?_
  obtain ⟨hp, g, d, tk, os⟩ := s
  obtain ⟨h1, h⟩ := h
  have hsub := sub_enumerate
  have it : ∀ {A' : Around} {E : Value → Shared → Prop} {Q : Value → Shared → Prop}, Q (.ref hp.objs.size) ⟨hp.push o, g, d, tk, os⟩ → wpAny (model prog w) A' (pyIter v) Q E ⟨hp, g, d, tk, os⟩ := fun q => B.iter prog w _ _ ⟨hp, g, d, tk, os⟩ _ h1 q
  wp_walk using it
  refine wpAny_stack_any fun st => wpAny_pure ?_
  split
  · rename_i c _ _ _ _ _
    cases (c == Value.type "enumerate") <;> (wp_walk using it; exact ⟨_, rfl, h⟩)
  · wp_walk using it
    exact ⟨_, rfl, h⟩
section
variable {prog : Program} {w : World} {A : Around} {E : Value → Shared → Prop} {s : Shared}
theorem enumCallG {v : Value} {o : Obj} {H : Heap → Prop} {Q : Value → Shared → Prop} (B : Begins v o H) (h1 : H s.heap)
    (h : ∀ h', IsEnum h' (s.heap.objs.size + 1) s.heap.objs.size 0 .none → h'.get? s.heap.objs.size = some o → (∀ b o, s.heap.get? b = some o → h'.get? b = some o) → Q (.ref (s.heap.objs.size + 1)) { s with heap := h' }) :
    wpAny (model prog w) A (call (.type "enumerate") [v]) Q E s := by
  refine callType_new F.called_enumerate (by decide) (F.typeCall_enumerate_1 _) (F.newCall_enumerate_1 _) (fun obj => F.args_object_init_2 obj _) F.entry_enumerate_new (enumNewG B) ⟨h1, ?_⟩
  have hz : (s.heap.push o).objs.size = s.heap.objs.size + 1 := Heap.size_push ..
  show _ ∧ _
  rw [hz]
  have he : IsEnum ((s.heap.push o).push { cls := .type "enumerate", data := .fields #[.none, .bool false, .ref s.heap.objs.size, rawInt 0, .none, .none] }) (s.heap.objs.size + 1) s.heap.objs.size 0 .none := by
    have q := Heap.get?_push_size (s.heap.push o) (o := { cls := .type "enumerate", data := .fields #[.none, .bool false, .ref s.heap.objs.size, rawInt 0, .none, .none] }) rfl
    rw [hz] at q
    exact q
  exact ⟨⟨_, he, rfl⟩, h _ he (Heap.get?_push_of_some _ (Heap.get?_push_size _ B.free)) fun b o x => Heap.get?_push_of_some _ (Heap.get?_push_of_some _ x)⟩
end
end PySem
namespace G
open PySem PySem.Spec PyProof.Rows L2
def IteT (K : PySem.W.Frag) (a : Addr) : It :=
  ⟨fun i H => ∃ (xs : List V) (x : V), SqT K H a xs ∧ xs[i]? = some x,
   fun i H v H' => ∃ T x, v = .ref T ∧ H T = none ∧ H' = upd H T (.tup [.int (i : Nat), x]) ∧ ∀ xs, SqT K H a xs → xs[i]? = some x,
   fun i H => ∃ xs : List V, SqT K H a xs ∧ xs.length = i⟩
theorem turn_enumT {P : Program} {w : World} {K : PySem.W.Frag} {elts : List Expr} {kk : Nat} {tpos : Pos} (a e it : Addr) (hai : a ≠ it) (hae : a ≠ e) :
    Turn P w K (.Tuple elts kk tpos) (IteT K a) [e, it] e (fun i h => (∃ old, IsEnum h e it ((i : Nat) : Int) old) ∧ h.IsTupleIter it a i ∧ e ≠ it) where
  mem := by simp
  obj := fun i h st b hb => by
    obtain ⟨⟨old, he⟩, ⟨o, ho, hc, hd⟩, _⟩ := st
    rcases List.mem_cons.mp hb with z | z
    · rw [z]; exact ⟨_, he, fun v q => nomatch q⟩
    · rw [List.mem_singleton.mp z]; exact ⟨o, ho, fun v q => by rw [hd] at q; cases q⟩
  keep := fun i h h' st k => by
    obtain ⟨⟨old, he⟩, hi, hne⟩ := st
    exact ⟨⟨old, k e (by simp) _ he⟩, hi.at fun o q => k it (by simp) o q, hne⟩
  item := by
    intro X hP hw hK hc i pins s σ H E I hf st hg
    subst hP hw hK
    obtain ⟨⟨old, he⟩, hit, hne⟩ := st
    obtain ⟨xs, x, hq, hx⟩ := hg
    obtain ⟨its, rv, p, hz⟩ := I.tuple hq
    obtain ⟨u, hu, ru⟩ := rv.get hx
    have hel : e < s.heap.objs.size := Heap.lt_size he
    have hil : it < s.heap.objs.size := by obtain ⟨_, q, _⟩ := hit; exact Heap.lt_size q
    have il : i < its.toArray.size := by
      rw [List.size_toArray]
      by_cases z : i < its.length
      · exact z
      · rw [List.getElem?_eq_none (by omega)] at hu; cases hu
    have DR := Draws.tuple (prog := X.prog) (w := X.w) (A := X.A.in1) (I.ok.hd hc) it a hai its.toArray
    refine wpAny_pyNext_enum_itemC (n := its.toArray.size) (fp := [it, a]) DR he ⟨hit, p⟩ il hne (by simp [hne, Ne.symm hae]) fun x' h' tk hP ho hst' hT hsz hk => ?_
    have ex : x' = u := by
      have e1 : its.toArray[i]? = some u := by simpa using hu
      rw [e1] at hP; cases hP; rfl
    subst ex
    refine ⟨_, rfl, wpAny_letOwnedTupleGo_enum (s := { s with heap := h', toks := tk + 1 }) ho fun h'' he' sb => ?_⟩
    have hT2 : h''.get? s.heap.objs.size = some { cls := .type "tuple", data := .seq #[.int i tk, x'] } := (sb.2 _ (Nat.ne_of_gt hel)).trans hT
    have new : ObjOk X.prog X.w (upd H s.heap.objs.size (.tup [.int (i : Nat), x])) h'' s.heap.objs.size (.tup [.int (i : Nat), x]) :=
      ⟨by show 2 ≤ sizeLine; decide, [.int i tk, x'], .cons ⟨_, rfl⟩ (.cons ru .nil), ⟨_, hT2, rfl, _, rfl⟩⟩
    have I1 : Inv X pins σ (upd H s.heap.objs.size (.tup [.int (i : Nat), x])) { s with heap := h'', toks := tk + 1 } :=
      I.turnedNew (ch := [e, it]) (fun b ob hb q => (sb.2 b (fun z => hb (by simp [z]))).trans (hk b ob (fun z => hb (by simp [z])) (fun z => hb (by simp [z])) q)) hf (Nat.le_refl _) new
    refine ⟨.ref s.heap.objs.size, _, I1, rfl, ⟨_, x, rfl, I.hok.fresh (Nat.le_refl _), rfl, fun ys hy => by rw [I.tuple_inj hy hq]; exact hx⟩, ⟨⟨x', ?_⟩, hst'.1.at fun o q => (sb.2 it (Ne.symm hne)).trans q, hne⟩, fun b hb => ?_⟩
    · have e1 : ((i + 1 : Nat) : Int) = (i : Int) + 1 := by omega
      rw [e1]; exact he'
    · have hb' : b < s.heap.objs.size := by
        rcases List.mem_cons.mp hb with z | z
        · rw [z]; exact hel
        · rw [List.mem_singleton.mp z]; exact hil
      rw [upd_ne (Nat.ne_of_lt hb')]
      exact (hf b hb).1
  done := by
    intro X hP hw hK hc i pins s σ H E I hf st hg
    subst hP hw hK
    obtain ⟨⟨old, he⟩, hit, hne⟩ := st
    obtain ⟨xs, hq, hx⟩ := hg
    obtain ⟨its, rv, p, hz⟩ := I.tuple hq
    obtain ⟨f0, f1, f2, f3, f4, f5⟩ := hf it (by simp)
    have hl := rv.length
    have DR := Draws.tuple (prog := X.prog) (w := X.w) (A := X.A.in1) (I.ok.hd hc) it a hai its.toArray
    refine wpAny_pyNext_enum_endD (n := its.toArray.size) (fp := [it, a]) DR he ⟨by rw [List.size_toArray, ← hl, hx]; exact hit, p⟩ fun h' eb => ⟨rfl, I.turned (t' := s.toks) (fun b o hb q => eb b o hb q) f0 f1 f3 f4 f5⟩
  self := fun A i s Q E st h => by
    obtain ⟨⟨_, he⟩, _⟩ := st
    exact wpAny_pyIter_enum he h
def iEnumT (K : PySem.W.Frag) (ta : TA) : TI := fun σ H R => ta σ H fun vs H1 => ∃ a xs, vs = [.ref a] ∧ SqT K H1 a xs ∧ R (IteT K a) H1
theorem pi_enumT {X : Cx} {e : Expr} {ta : TA} {p pos tpos : Pos} {elts : List Expr} {kk : Nat} (hg : Gl X "enumerate") (hm : X.mg "enumerate" = none) (ha : PA X [e] ta) (hs : starEach [e] X.env = [(false, eval e X.env)] := by rfl) :
    PI X (.Tuple elts kk tpos) (.Call (.Name "enumerate" p) [e] [] pos) (iEnumT X.K ta) := by
  refine ⟨fun pins s σ H R I h => ?_⟩
  refine Call_ (ld_blt I hg hm boot_enumerate (PyProof.Rows.callWith_type1 (thn (ha.run pos pins s σ H _ I h) fun us s1 ⟨vs, H1, I1, r1, q1⟩ => ?_) hs rfl))
  obtain ⟨a, xs, ex, hq, q⟩ := q1
  subst ex
  cases r1 with
  | cons r rr =>
    cases rr
    cases r
    obtain ⟨its, rv, p', hz⟩ := I1.tuple hq
    refine enumCallG (begins_tuple a its.toArray) p' fun h' he hit hk => wpAny_pyIter_enum he ?_
    have I2 : Inv X pins σ H1 { s1 with heap := h' } := I1.kept (t' := s1.toks) hk
    have al : a < s1.heap.objs.size := p'.lt
    refine ⟨s1.heap.objs.size + 1, [s1.heap.objs.size + 1, s1.heap.objs.size], _, _, H1, rfl, I2, turn_enumT a (s1.heap.objs.size + 1) s1.heap.objs.size (Nat.ne_of_lt al) (Nat.ne_of_lt (Nat.lt_succ_of_lt al)), ⟨⟨.none, he⟩, ⟨_, hit, rfl, rfl⟩, Nat.succ_ne_self _⟩, fun b hb => ?_, q⟩
    have hle : s1.heap.objs.size ≤ b := by
      rcases List.mem_cons.mp hb with z | z
      · rw [z]; exact Nat.le_succ _
      · rw [List.mem_singleton.mp z]; exact Nat.le_refl _
    exact I1.fpOk hle (I1.hok.fresh hle)
end G
set_option Elab.async false
set_option linter.all false
set_option maxRecDepth 100000
set_option maxHeartbeats 4000000
namespace G
open PySem PySem.Spec PyProof.Rows L2
section
variable {X : Cx} {ca : Nat → Addr} {W : WX} {b : Bool} {a c : Expr} {fa fb : En → Rz D} {pos : Pos} {Φ : Fm}
/-! ### what is walked, whatever its kind -/
theorem pi_or {tg iter : Expr} {w w' : TI} (h : PI X tg iter w) (h' : PI X tg iter w') : PI X tg iter (fun σ H R => w σ H R ∨ w' σ H R) :=
  ⟨fun pins s σ H R I q => q.elim (h.run pins s σ H R I) (h'.run pins s σ H R I)⟩
def chD (x : Str) : List D := x.cps.toList.map fun c => .str ⟨#[c]⟩
def itS : D → Rz (List D)
  | .lst ds => .ok ds
  | .scr ns => .ok (ns.map D.int)
  | .tup ds => .ok ds
  | .str x => .ok (chD x)
  | _ => .bad
def iSq (f : En → Rz D) : En → Rz (List D) := fun e => (f e).bind itS
theorem itok_str {K : PySem.W.Frag} {Γ : Gm} {H : Hp} (x : Str) : ItOk K Γ H (chD x) (Its x) := fun Γ2 H2 ev => by
  have hl : (chD x).length = x.cps.size := by simp [chD]
  refine ⟨fun i d hd => ?_, by rw [hl]; exact Nat.le_refl _⟩
  have hd' : (x.cps.toList.map fun c => D.str ⟨#[c]⟩)[i]? = some d := hd
  rw [List.getElem?_map] at hd'
  cases q : x.cps.toList[i]? with
  | none => rw [q] at hd'; cases hd'
  | some c =>
    rw [q] at hd'
    cases hd'
    have q2 : x.cps[i]? = some c := by simpa using q
    refine ⟨?_, fun y H3 hy => ?_⟩
    · by_cases hi : i < x.cps.size
      · exact hi
      · rw [Array.getElem?_eq_none (by omega)] at q2; cases q2
    · obtain ⟨rfl, c', hc, rfl⟩ := hy
      rw [q2] at hc; cases hc
      exact ⟨Same.refl _, .str⟩
theorem iOf_bad {K : PySem.W.Frag} {n : Nat} {f : En → Rz D} {σ : St} {H : Hp} {R' : It → Hp → Prop} {Γ : Gm} {e : En} (r : R K n Γ σ H e) (h : Out ca W σ H (fun ds H' => ∀ J, ItOk K Γ H' ds J → R' J H') ((f e).bind itS))
    (hn : ∀ ds, f e ≠ .ok (.lst ds)) (hs : ∀ ns, f e ≠ .ok (.scr ns)) (ht : ∀ ds, f e ≠ .ok (.tup ds)) (hx : ∀ x, f e ≠ .ok (.str x)) : ∀ g : D → Rz (List D), Out ca W σ H (fun ds H' => ∀ J, ItOk K Γ H' ds J → R' J H') ((f e).bind g) := fun g => by
  cases q : f e with
  | exc k => rw [q] at h; exact h
  | bad => rw [q] at h; exact h
  | ok d =>
    rw [q] at h
    cases d with
    | lst ds => exact absurd q (hn ds)
    | scr ds => exact absurd q (hs ds)
    | tup ds => exact absurd q (ht ds)
    | str ds => exact absurd q (hx ds)
    | _ => exact h.elim
theorem di_strOnly {tg : Expr} (h : DE true ca W X a fa) : DI ca W X tg a (fun e => (fa e).bind fun d => match d with | .str x => .ok (chD x) | _ => .bad) := by
  refine pi_imp (pi_str h) fun σ H R' ⟨Γ, e, r, h⟩ => ⟨Γ, e, r, h.bind.imp fun d H1 s k v rv => ?_⟩
  cases d with
  | str x => exact ⟨x, rep_str rv, k H1 (Same.refl _) _ (itok_str x)⟩
  | _ => exact k.elim
theorem di_seq {tg : Expr} (h : DE true ca W X a fa) : DI ca W X tg a (iSq fa) := by
  refine pi_imp (pi_or (di_list h) (pi_or (di_tup h) (di_strOnly h))) fun σ H R' ⟨Γ, e, r, k⟩ => ?_
  have k : Out ca W σ H (fun ds H' => ∀ J, ItOk X.K Γ H' ds J → R' J H') ((fa e).bind itS) := k
  cases q : fa e with
  | exc n => exact .inl ⟨Γ, e, r, by rw [q] at k; show Out ca W σ H _ ((fa e).bind itL); rw [q]; exact k⟩
  | bad => rw [q] at k; exact k.elim
  | ok d =>
    rw [q] at k
    cases d with
    | lst ds => exact .inl ⟨Γ, e, r, by show Out ca W σ H _ ((fa e).bind itL); rw [q]; exact k⟩
    | scr ds => exact .inl ⟨Γ, e, r, by show Out ca W σ H _ ((fa e).bind itL); rw [q]; exact k⟩
    | tup ds => exact .inr (.inl ⟨Γ, e, r, by show Out ca W σ H _ ((fa e).bind itT); rw [q]; exact k⟩)
    | str x => exact .inr (.inr ⟨Γ, e, r, by dsimp only; rw [q]; exact k⟩)
    | _ => exact k.elim
/-! ### enumerate -/
def enD (i : Int) : List D → List D
  | [] => []
  | d :: ds => .tup [.int i, d] :: enD (i + 1) ds
theorem enD_len : ∀ (ds : List D) (i : Int), (enD i ds).length = ds.length
  | [], _ => rfl
  | d :: ds, i => by simp [enD, enD_len ds]
theorem enD_get : ∀ (ds : List D) (k : Int) (i : Nat) (d : D), (enD k ds)[i]? = some d → ∃ x, ds[i]? = some x ∧ d = .tup [.int (k + i), x]
  | [], _, _, _, h => by simp [enD] at h
  | x :: ds, k, 0, d, h => by simp [enD] at h; exact ⟨x, rfl, by rw [← h]; simp⟩
  | x :: ds, k, i + 1, d, h => by
    have h : (enD (k + 1) ds)[i]? = some d := by simpa [enD] using h
    obtain ⟨y, h1, h2⟩ := enD_get ds (k + 1) i d h
    refine ⟨y, by simpa using h1, ?_⟩
    rw [h2]
    congr 3
    push_cast
    omega
def enS : D → Rz (List D)
  | .lst ds => .ok (enD 0 ds)
  | .tup ds => .ok (enD 0 ds)
  | _ => .bad
def iEn (f : En → Rz D) : En → Rz (List D) := fun e => (f e).bind enS
theorem di_enum {p tpos : Pos} {elts : List Expr} {kk : Nat} (hm : X.mg "enumerate" = none) (h : DE true ca W X a fa) (hg : Gl X "enumerate" := by rfl) (hs : starEach [a] X.env = [(false, eval a X.env)] := by rfl) :
    DI ca W X (.Tuple elts kk tpos) (.Call (.Name "enumerate" p) [a] [] pos) (iEn fa) := by
  have hs' : starEach [a] X.env = (false, eval a X.env) :: starEach [] X.env := by rw [hs]; rfl
  refine pi_imp (pi_or (pi_enum hg hm (pa_cons h pa_nil hs') hs) (pi_enumT hg hm (pa_cons h pa_nil hs') hs)) fun σ H R' ⟨Γ, e, r, k⟩ => ?_
  have k : Out ca W σ H (fun ds H' => ∀ J, ItOk X.K Γ H' ds J → R' J H') ((fa e).bind enS) := k
  cases q : fa e with
  | exc n => rw [q] at k; exact .inl ⟨Γ, e, r, by rw [q]; exact k⟩
  | bad => rw [q] at k; exact k.elim
  | ok d =>
    rw [q] at k
    cases d with
    | lst ds =>
      refine .inl ⟨Γ, e, r, ?_⟩
      rw [q]
      intro H1 s v rv
      have rv' := rv
      unfold Rep at rv
      obtain ⟨a, vs, rfl, hq, _, t⟩ := rv
      refine ⟨a, vs, rfl, SqL.of hq, k H1 s _ fun Γ2 H2 ev => ?_⟩
      have r2 := ev _ _ rv'
      unfold Rep at r2
      obtain ⟨a', vs2, e1, q2, _, t2⟩ := r2
      cases e1
      refine ⟨fun i d hd => ?_, ⟨vs2, SqL.of q2, by rw [enD_len, t2.length]; exact Nat.le_refl _⟩⟩
      obtain ⟨x, hx, rfl⟩ := enD_get _ _ _ _ hd
      obtain ⟨u, hu, ru⟩ := t2.get hx
      refine ⟨⟨vs2, u, SqL.of q2, hu⟩, fun y H3 hy => ?_⟩
      obtain ⟨T, z, rfl, nT, rfl, hz⟩ := hy
      have := hz vs2 (SqL.of q2)
      rw [hu] at this; cases this
      refine ⟨same_new nT, ?_⟩
      unfold Rep
      exact ⟨T, _, rfl, SqT.of upd_same, .cons (by rw [Int.zero_add]; exact .int) (.cons (ru.same (same_new nT)) .nil)⟩
    | tup ds =>
      refine .inr ⟨Γ, e, r, ?_⟩
      rw [q]
      intro H1 s v rv
      have rv' := rv
      unfold Rep at rv
      obtain ⟨a, vs, rfl, hq, t⟩ := rv
      refine ⟨a, vs, rfl, hq, k H1 s _ fun Γ2 H2 ev => ?_⟩
      have r2 := ev _ _ rv'
      unfold Rep at r2
      obtain ⟨a', vs2, e1, q2, t2⟩ := r2
      cases e1
      refine ⟨fun i d hd => ?_, ⟨vs2, q2, by rw [enD_len, t2.length]⟩⟩
      obtain ⟨x, hx, rfl⟩ := enD_get _ _ _ _ hd
      obtain ⟨u, hu, ru⟩ := t2.get hx
      refine ⟨⟨vs2, u, q2, hu⟩, fun y H3 hy => ?_⟩
      obtain ⟨T, z, rfl, nT, rfl, hz⟩ := hy
      have := hz vs2 q2
      rw [hu] at this; cases this
      refine ⟨same_new nT, ?_⟩
      unfold Rep
      exact ⟨T, _, rfl, SqT.of upd_same, .cons (by rw [Int.zero_add]; exact .int) (.cons (ru.same (same_new nT)) .nil)⟩
    | _ => exact k.elim
/-! ### zip -/
def zpD : List D → List D → List D
  | x :: xs, y :: ys => .tup [x, y] :: zpD xs ys
  | _, _ => []
theorem zpD_get : ∀ (xs ys : List D) (i : Nat) (d : D), (zpD xs ys)[i]? = some d → ∃ x y, xs[i]? = some x ∧ ys[i]? = some y ∧ d = .tup [x, y]
  | [], _, _, _, h => by simp [zpD] at h
  | _ :: _, [], _, _, h => by simp [zpD] at h
  | x :: xs, y :: ys, 0, d, h => by simp [zpD] at h; exact ⟨x, y, rfl, rfl, h.symm⟩
  | x :: xs, y :: ys, i + 1, d, h => by
    have h : (zpD xs ys)[i]? = some d := by simpa [zpD] using h
    obtain ⟨u, v, h1, h2, h3⟩ := zpD_get xs ys i d h
    exact ⟨u, v, by simpa using h1, by simpa using h2, h3⟩
theorem zpD_len : ∀ (xs ys : List D), (zpD xs ys).length = min xs.length ys.length
  | [], _ => by simp [zpD]
  | _ :: _, [] => by simp [zpD]
  | x :: xs, y :: ys => by simp [zpD, zpD_len xs ys]
def zpS : D → D → Rz (List D)
  | .lst xs, .lst ys => .ok (zpD xs ys)
  | .tup xs, .tup ys => .ok (zpD xs ys)
  | _, _ => .bad
def iZp (f g : En → Rz D) : En → Rz (List D) := fun e => (f e).bind fun x => (g e).bind fun y => zpS x y
theorem di_zip {p tpos : Pos} {elts : List Expr} {kk : Nat} (hm : X.mg "zip" = none) (h : DE true ca W X a fa) (h' : DE true ca W X c fb) (hg : Gl X "zip" := by rfl)
    (hs : starEach [a, c] X.env = (false, eval a X.env) :: starEach [c] X.env := by rfl) (hs2 : starEach [c] X.env = (false, eval c X.env) :: starEach [] X.env := by rfl) (hpl : (backTo pos (starEach [c] X.env)).any (·.1) = false := by rfl) :
    DI ca W X (.Tuple elts kk tpos) (.Call (.Name "zip" p) [a, c] [] pos) (iZp fa fb) := by
  refine pi_imp (RZ.pi_zipA hg hm (pa_cons h (pa_cons h' pa_nil hs2) hs) hs hpl) fun σ H R' ⟨Γ, e, r, k⟩ => ⟨Γ, e, r, k.bind.imp fun dx H1 s1 k1 x rx => ⟨Γ, e, r.same s1, k1.bind.imp fun dy H2 s2 k2 y ry => ?_⟩⟩
  have rx := rx.same s2
  cases dx with
  | lst xs =>
    cases dy with
    | lst ys =>
      have rx' := rx
      have ry' := ry
      unfold Rep at rx ry
      obtain ⟨p, vs, rfl, hp, _, tx⟩ := rx
      obtain ⟨q, us, rfl, hq, _, ty⟩ := ry
      refine ⟨p, q, vs, us, rfl, .inl ⟨SqL.of hp, SqL.of hq, k2 H2 (Same.refl _) _ fun Γ2 H3 ev => ?_⟩⟩
      have r2 := ev _ _ rx'
      have r3 := ev _ _ ry'
      unfold Rep at r2 r3
      obtain ⟨p', vs2, e1, q2, _, t2⟩ := r2
      obtain ⟨q', us2, e2, q3, _, t3⟩ := r3
      cases e1
      cases e2
      refine ⟨fun i d hd => ?_, ⟨vs2, us2, SqL.of q2, SqL.of q3, by rw [zpD_len, t2.length, t3.length]; omega⟩⟩
      obtain ⟨x, y, hx, hy, rfl⟩ := zpD_get _ _ _ _ hd
      obtain ⟨u, hu, ru⟩ := t2.get hx
      obtain ⟨w, hw, rw'⟩ := t3.get hy
      refine ⟨⟨vs2, us2, u, w, SqL.of q2, SqL.of q3, hu, hw⟩, fun z H4 hz => ?_⟩
      obtain ⟨T, z1, z2, rfl, nT, rfl, hz1, hz2⟩ := hz
      have m1 := hz1 vs2 (SqL.of q2)
      have m2 := hz2 us2 (SqL.of q3)
      rw [hu] at m1; cases m1
      rw [hw] at m2; cases m2
      refine ⟨same_new nT, ?_⟩
      unfold Rep
      exact ⟨T, _, rfl, SqT.of upd_same, .cons (ru.same (same_new nT)) (.cons (rw'.same (same_new nT)) .nil)⟩
    | _ => exact k2.elim
  | tup xs =>
    cases dy with
    | tup ys =>
      have rx' := rx
      have ry' := ry
      unfold Rep at rx ry
      obtain ⟨p, vs, rfl, hp, tx⟩ := rx
      obtain ⟨q, us, rfl, hq, ty⟩ := ry
      refine ⟨p, q, vs, us, rfl, .inr ⟨hp, hq, k2 H2 (Same.refl _) _ fun Γ2 H3 ev => ?_⟩⟩
      have r2 := ev _ _ rx'
      have r3 := ev _ _ ry'
      unfold Rep at r2 r3
      obtain ⟨p', vs2, e1, q2, t2⟩ := r2
      obtain ⟨q', us2, e2, q3, t3⟩ := r3
      cases e1
      cases e2
      refine ⟨fun i d hd => ?_, ⟨vs2, us2, q2, q3, by rw [zpD_len, t2.length, t3.length]; omega⟩⟩
      obtain ⟨x, y, hx, hy, rfl⟩ := zpD_get _ _ _ _ hd
      obtain ⟨u, hu, ru⟩ := t2.get hx
      obtain ⟨w, hw, rw'⟩ := t3.get hy
      refine ⟨⟨vs2, us2, u, w, q2, q3, hu, hw⟩, fun z H4 hz => ?_⟩
      obtain ⟨T, z1, z2, rfl, nT, rfl, hz1, hz2⟩ := hz
      have m1 := hz1 vs2 q2
      have m2 := hz2 us2 q3
      rw [hu] at m1; cases m1
      rw [hw] at m2; cases m2
      refine ⟨same_new nT, ?_⟩
      unfold Rep
      exact ⟨T, _, rfl, SqT.of upd_same, .cons (ru.same (same_new nT)) (.cons (rw'.same (same_new nT)) .nil)⟩
    | _ => exact k2.elim
  | _ => exact k2.elim
/-! ### chains -/
theorem de_ch {op op' : CmpOp} {r r' : R2} {g g' : D → D → Option D} {c' : Expr} {fc : En → Rz D} (ho : OpR X (compareOp op) r) (ho' : OpR X (compareOp op') r') (k : OpD X.K r g) (k' : OpD X.K r' g') (ha : DE b ca W X a fa) (hb : DE b ca W X c fb) (hc : DE b ca W X c' fc)
    (hm : lastMarks [op, op'] [c, c'] = false := by with_unfolding_all rfl) : DE b ca W X (.Compare a [op, op'] [c, c'] pos) (eCh g g' fa fb fc) := by
  refine pe_imp (pe_chain ho ho' ha hb hc hm) fun σ H Q ⟨Γ, e, r, h⟩ => ⟨Γ, e, r, h.bind.imp fun dx H1 s1 k1 x rx => ⟨Γ, e, r.same s1, k1.bind.imp fun dy H2 s2 k2 y ry => ?_⟩⟩
  cases q : g dx dy with
  | none => rw [q] at k2; exact k2.elim
  | some z =>
    rw [q] at k2
    refine k (gmb b Γ) H2 x y dx dy z _ (gmb_al (r.same (s1.trans s2)).al) (rx.same s2) ry q fun v H3 s3 rv => ?_
    cases z with
    | bl kb =>
      refine ⟨kb, rep_bl rv, ?_⟩
      cases kb with
      | true =>
        have k2 : Out ca W σ H2 (fun d H' => ∀ v, Rep X.K (gmb b Γ) H' d v → Q v H') ((fc e).bind fun u => Rz.ofO (g' dy u)) := k2
        refine iteT ⟨Γ, e, r.same ((s1.trans s2).trans s3), (Out.bind (Out.grow s3 k2)).imp fun du H4 s4 k4 u ru => ?_⟩
        obtain ⟨d, hd, k4⟩ := k4.ofO
        exact k' (gmb b Γ) H4 y u dy du d Q (gmb_al (r.same (((s1.trans s2).trans s3).trans s4)).al) (ry.same (s3.trans s4)) ru hd fun v H' s rv => k4 H' s v rv
      | false => exact iteF (k2 H3 s3 _ .bl)
    | _ => exact k2.elim
theorem dt_ch {op op' : CmpOp} {r r' : R2} {g g' : D → D → Option D} {c' : Expr} {fc : En → Rz D} (ho : OpR X (compareOp op) r) (ho' : OpR X (compareOp op') r') (k : OpD X.K r g) (k' : OpD X.K r' g') (ha : DE b ca W X a fa) (hb : DE b ca W X c fb) (hc : DE b ca W X c' fc)
    (hm : lastMarks [op, op'] [c, c'] = false := by with_unfolding_all rfl) : DT ca W X (.Compare a [op, op'] [c, c'] pos) (cB (eCh g g' fa fb fc)) := by
  refine pt_imp (pt_chain ho ho' ha hb hc hm) fun σ H Q h => ?_
  obtain ⟨Γ, e, r, h⟩ := test_cOf (b := b) h
  refine ⟨Γ, e, r, h.bind.imp fun dx H1 s1 k1 x rx => ⟨Γ, e, r.same s1, k1.bind.imp fun dy H2 s2 k2 y ry => ?_⟩⟩
  cases q : g dx dy with
  | none => rw [q] at k2; exact k2.elim
  | some z =>
    rw [q] at k2
    refine k (gmb b Γ) H2 x y dx dy z _ (gmb_al (r.same (s1.trans s2)).al) (rx.same s2) ry q fun v H3 s3 rv => ?_
    cases z with
    | bl kb =>
      refine ⟨kb, rep_bl rv, ?_⟩
      cases kb with
      | true =>
        have k2 : Out ca W σ H2 (fun d H' => ∀ v, Rep X.K (gmb b Γ) H' d v → ∃ k, v = .bl k ∧ Q k H') ((fc e).bind fun u => Rz.ofO (g' dy u)) := k2
        refine iteT ⟨Γ, e, r.same ((s1.trans s2).trans s3), (Out.bind (Out.grow s3 k2)).imp fun du H4 s4 k4 u ru => ?_⟩
        obtain ⟨d, hd, k4⟩ := k4.ofO
        exact k' (gmb b Γ) H4 y u dy du d _ (gmb_al (r.same (((s1.trans s2).trans s3).trans s4)).al) (ry.same (s3.trans s4)) ru hd fun v H' s rv => k4 H' s v rv
      | false => exact iteF (k2 H3 s3 _ .bl)
    | _ => exact k2.elim
/-! ### slices -/
def evO : Option (En → Rz D) → En → Rz (Option Int)
  | none, _ => .ok none
  | some f, e => (f e).bind fun d => match d with | .int i => .ok (some i) | _ => .bad
abbrev DP (b : Bool) (ca : Nat → Addr) (W : WX) (X : Cx) (e : Option Expr) (f : Option (En → Rz D)) : Prop := PO X e (fun σ H Q => ∃ Γ e, R X.K X.N.length Γ σ H e ∧ Out ca W σ H (fun o H' => Q o H') (evO f e))
theorem po_imp {e : Option Expr} {t t' : TO} (h : PO X e t) (k : ∀ σ H Q, t' σ H Q → t σ H Q) : PO X e t' := ⟨fun pins s σ H Q I h' => h.run pins s σ H Q I (k _ _ _ h')⟩
theorem dp_none : DP b ca W X none none := po_imp po_none fun σ H Q ⟨Γ, e, r, h⟩ => h H (Same.refl _)
theorem dp_some (h : DE b ca W X a fa) : DP b ca W X (some a) (some fa) := by
  refine po_imp (po_some h) fun σ H Q ⟨Γ, e, r, h⟩ => ⟨Γ, e, r, h.bind.imp fun d H1 s k v rv => ?_⟩
  cases d with
  | int i => exact ⟨i, rep_int rv, k H1 (Same.refl _)⟩
  | _ => exact k.elim
def cutL {α : Type} (xs : List α) (lo hi : Option Int) : List α := (xs.drop (HT.sIx xs.length 0 lo)).take (HT.sIx xs.length xs.length hi - HT.sIx xs.length 0 lo)
def slD : D → Option Int → Option Int → Option D
  | .tup ds, l, h => some (.tup (cutL ds l h))
  | .lst ds, l, h => some (.lst (cutL ds l h))
  | .str x, l, h => if x.length ≤ sizeLine then some (.str (cutS x l h)) else none
  | _, _, _ => none
def eSl (f : En → Rz D) (lo hi : Option (En → Rz D)) : En → Rz D := fun e => (f e).bind fun x => (evO lo e).bind fun l => (evO hi e).bind fun h => Rz.ofO (slD x l h)
theorem RepL.cut {K : PySem.W.Frag} {Γ : Gm} {H : Hp} {ds : List D} {vs : List V} (t : RepL K Γ H ds vs) (lo hi : Option Int) : RepL K Γ H (cutL ds lo hi) (cutV vs lo hi) := by
  unfold cutL cutV
  rw [t.length]
  exact (t.drop _).take _
theorem cut_whole {α : Type} {xs : List α} {lo hi : Option Int} (h : HT.sIx xs.length 0 lo = 0 ∧ HT.sIx xs.length xs.length hi = xs.length) : cutL xs lo hi = xs := by
  unfold cutL
  rw [h.1, h.2]
  simp
theorem de_slice {lo hi : Option Expr} {fl fh : Option (En → Rz D)} {p2 : Pos} (ha : DE b ca W X a fa) (hl : DP b ca W X lo fl) (hh : DP b ca W X hi fh) : DE b ca W X (.Subscript a (.Slice lo hi none p2) pos) (eSl fa fl fh) := by
  refine pe_imp (pe_slice (sl_tupA.or (sl_list.or sl_str)) ha hl hh) fun σ H Q ⟨Γ, e, r, h⟩ => ⟨Γ, e, r, h.bind.imp fun d H1 s1 k1 v rv => ⟨Γ, e, r.same s1, k1.bind.imp fun l H2 s2 k2 => ⟨Γ, e, r.same (s1.trans s2), k2.bind.imp fun u H3 s3 k3 => ?_⟩⟩⟩
  obtain ⟨x, hx, k3⟩ := k3.ofO
  have rv := rv.same (s2.trans s3)
  have al := gmb_al (b := b) (r.same ((s1.trans s2).trans s3)).al
  unfold slD at hx
  split at hx
  · cases hx
    have rv' := rv
    unfold Rep at rv
    obtain ⟨p, vs, rfl, hp, t⟩ := rv
    refine .inl ⟨p, vs, rfl, hp, fun z => ?_, fun _ q hq => ?_⟩
    · refine k3 H3 (Same.refl _) _ ?_
      rw [cut_whole (by rw [← t.length]; exact z)]
      exact rv'
    · refine k3 _ (same_new hq) _ ?_
      unfold Rep
      exact ⟨q, _, rfl, SqT.of upd_same, (t.cut _ _).same (same_new hq)⟩
  · cases hx
    unfold Rep at rv
    obtain ⟨p, vs, rfl, hp, _, t⟩ := rv
    refine .inr (.inl ⟨p, vs, rfl, SqL.of hp, fun q hq => k3 _ (same_new hq) _ ?_⟩)
    unfold Rep
    have ho : (gmb b Γ).own q = none := by
      cases z : (gmb b Γ).own q with
      | none => rfl
      | some j => exact absurd hq (al q (by rw [z]; exact fun y => nomatch y))
    exact ⟨q, _, rfl, upd_same, ho, (t.cut _ _).same (same_new hq)⟩
  · split at hx
    · rename_i hlen
      cases hx
      exact .inr (.inr ⟨_, rep_str rv, hlen, k3 H3 (Same.refl _) _ .str⟩)
    · cases hx
  · cases hx
/-! ### in -/
def inAny (x : D) (ds : List D) : Bool := ds.any fun y => eqv y x
/-- x in y: y a tuple, a list; or one sign in a text -/
def inD (x y : D) : Option D := match x, y with
  | .str u, .str z => if u.cps.size = 1 then some (.bl (decide (u.cps.getD 0 0 ∈ z.cps.toList))) else none
  | x, .tup ds => if okd 63 x = true ∧ okd 64 (.tup ds) = true then some (.bl (inAny x ds)) else none
  | x, .lst ds => if okd 63 x = true ∧ okd 64 (.lst ds) = true then some (.bl (inAny x ds)) else none
  | _, _ => none
def ninD (x y : D) : Option D := match x, y with
  | .str u, .str z => if u.cps.size = 1 then some (.bl (!decide (u.cps.getD 0 0 ∈ z.cps.toList))) else none
  | x, .tup ds => if okd 63 x = true ∧ okd 64 (.tup ds) = true then some (.bl (!inAny x ds)) else none
  | x, .lst ds => if okd 63 x = true ∧ okd 64 (.lst ds) = true then some (.bl (!inAny x ds)) else none
  | _, _ => none
theorem any_py (x : D) (hx : okd 63 x = true) : ∀ (ds : List D), okdL 63 ds = true → (D.pyL ds).any (fun y => PyData.eqv y x.py) = inAny x ds
  | [], _ => by simp [D.pyL, inAny]
  | d :: ds, h => by
    simp only [okdL, Bool.and_eq_true] at h
    have ih := any_py x hx ds h.2
    simp only [inAny] at ih ⊢
    simp only [D.pyL, List.any_cons]
    rw [eqv_py d x 63 63 h.1 hx, ih]
def rInA (K : PySem.W.Frag) (neg : Bool) : R2 := fun x y H Q => ∃ d ds, okd 63 d = true ∧ okdL 63 ds = true ∧ Dp K H x d.py ∧ ((Dp K H y (D.lst ds).py) ∨ (Dp K H y (D.tup ds).py)) ∧ Q (.bl (if neg then !inAny d ds else inAny d ds)) H
theorem room_in {A : Around} {d : D} {ds : List PyData} (h : okd 63 d = true) (hu : A.units + 64 < cLine) : A.units + 1 + min (PyData.depthAll ds) d.py.depth < cLine := by
  have h1 := (okd_can h).2
  have h2 : min (PyData.depthAll ds) d.py.depth ≤ d.py.depth := Nat.min_le_right _ _
  omega
theorem op_inA (hu : X.A.units + 64 < cLine) : OpR X (compareOp .In) (rInA X.K false) := by
  intro pins s σ H x y v u Q I rx ry h
  obtain ⟨d, ds, h1, h2, hx, hy, q⟩ := h
  obtain ⟨bs, r2⟩ := Dp.reads I _ x v hx rx
  rcases hy with hy | hy
  · obtain ⟨as, r1⟩ := Dp.reads I _ y u hy ry
    unfold D.py at r1
    refine PySem.SeqAt.in_list_reads r1 r2 (okdL_can h2).1 (okd_can h1).1 (room_in h1 hu) ?_
    rw [any_py d h1 ds h2]
    exact ⟨.bl _, H, I, rfl, q⟩
  · obtain ⟨as, r1⟩ := Dp.reads I _ y u hy ry
    unfold D.py at r1
    refine PySem.SeqAt.in_tuple_reads r1 r2 (okdL_can h2).1 (okd_can h1).1 (room_in h1 hu) ?_
    rw [any_py d h1 ds h2]
    exact ⟨.bl _, H, I, rfl, q⟩
theorem op_ninA (hu : X.A.units + 64 < cLine) : OpR X (compareOp .NotIn) (rInA X.K true) := by
  intro pins s σ H x y v u Q I rx ry h
  obtain ⟨d, ds, h1, h2, hx, hy, q⟩ := h
  obtain ⟨bs, r2⟩ := Dp.reads I _ x v hx rx
  rcases hy with hy | hy
  · obtain ⟨as, r1⟩ := Dp.reads I _ y u hy ry
    unfold D.py at r1
    refine PySem.SeqAt.notIn_list_reads r1 r2 (okdL_can h2).1 (okd_can h1).1 (room_in h1 hu) ?_
    rw [any_py d h1 ds h2]
    exact ⟨.bl _, H, I, rfl, q⟩
  · obtain ⟨as, r1⟩ := Dp.reads I _ y u hy ry
    unfold D.py at r1
    refine PySem.SeqAt.notIn_tuple_reads r1 r2 (okdL_can h2).1 (okd_can h1).1 (room_in h1 hu) ?_
    rw [any_py d h1 ds h2]
    exact ⟨.bl _, H, I, rfl, q⟩
def rSgn (neg : Bool) : R2 := fun x y H Q => ∃ (c : Nat) (z : Str), x = .str ⟨#[c]⟩ ∧ y = .str z ∧ Q (.bl (if neg then !decide (c ∈ z.cps.toList) else decide (c ∈ z.cps.toList))) H
theorem one_sign {u : Str} (h : u.cps.size = 1) : u = ⟨#[u.cps.getD 0 0]⟩ := by
  obtain ⟨⟨l⟩⟩ := u
  cases l with
  | nil => simp at h
  | cons a r =>
    cases r with
    | nil => rfl
    | cons a2 r2 => simp at h
theorem opd_in {K : PySem.W.Frag} : OpD K (fun x y H Q => rSgn false x y H Q ∨ rInA K false x y H Q) inD := by
  intro Γ H x y dx dy d Q al rx ry hd k
  unfold inD at hd
  split at hd
  · split at hd
    · rename_i u z hl
      cases hd
      exact .inl ⟨u.cps.getD 0 0, z, by rw [rep_str rx, ← one_sign hl], rep_str ry, k _ _ (Same.refl _) .bl⟩
    · cases hd
  · split at hd
    · rename_i ds hl
      cases hd
      exact .inr ⟨dx, ds, hl.1, by have := hl.2; simp only [okd] at this; exact this, rx.dp hl.1, .inr (ry.dp hl.2), k _ _ (Same.refl _) .bl⟩
    · cases hd
  · split at hd
    · rename_i ds hl
      cases hd
      exact .inr ⟨dx, ds, hl.1, by have := hl.2; simp only [okd] at this; exact this, rx.dp hl.1, .inl (ry.dp hl.2), k _ _ (Same.refl _) .bl⟩
    · cases hd
  · cases hd
theorem opd_nin {K : PySem.W.Frag} : OpD K (fun x y H Q => rSgn true x y H Q ∨ rInA K true x y H Q) ninD := by
  intro Γ H x y dx dy d Q al rx ry hd k
  unfold ninD at hd
  split at hd
  · split at hd
    · rename_i u z hl
      cases hd
      exact .inl ⟨u.cps.getD 0 0, z, by rw [rep_str rx, ← one_sign hl], rep_str ry, k _ _ (Same.refl _) .bl⟩
    · cases hd
  · split at hd
    · rename_i ds hl
      cases hd
      exact .inr ⟨dx, ds, hl.1, by have := hl.2; simp only [okd] at this; exact this, rx.dp hl.1, .inr (ry.dp hl.2), k _ _ (Same.refl _) .bl⟩
    · cases hd
  · split at hd
    · rename_i ds hl
      cases hd
      exact .inr ⟨dx, ds, hl.1, by have := hl.2; simp only [okd] at this; exact this, rx.dp hl.1, .inl (ry.dp hl.2), k _ _ (Same.refl _) .bl⟩
    · cases hd
  · cases hd
theorem de_in (hr : Rm X.A) (ha : DE b ca W X a fa) (hb : DE b ca W X c fb) (hm : behindInMarks .In c = false := by rfl) : DE b ca W X (.Compare a [.In] [c] pos) (eBin inD fa fb) := de_cmp (op_in_sign.or (op_inA hr.units)) opd_in ha hb hm
theorem de_nin (hr : Rm X.A) (ha : DE b ca W X a fa) (hb : DE b ca W X c fb) (hm : behindInMarks .NotIn c = false := by rfl) : DE b ca W X (.Compare a [.NotIn] [c] pos) (eBin ninD fa fb) := de_cmp (op_notIn_sign.or (op_ninA hr.units)) opd_nin ha hb hm
theorem dt_in (hr : Rm X.A) (ha : DE b ca W X a fa) (hb : DE b ca W X c fb) (hm : behindInMarks .In c = false := by rfl) : DT ca W X (.Compare a [.In] [c] pos) (cB (eBin inD fa fb)) := dt_cmp (op_in_sign.or (op_inA hr.units)) opd_in ha hb hm
theorem dt_nin (hr : Rm X.A) (ha : DE b ca W X a fa) (hb : DE b ca W X c fb) (hm : behindInMarks .NotIn c = false := by rfl) : DT ca W X (.Compare a [.NotIn] [c] pos) (cB (eBin ninD fa fb)) := dt_cmp (op_notIn_sign.or (op_ninA hr.units)) opd_nin ha hb hm
end
end G
set_option Elab.async false
set_option linter.all false
set_option maxRecDepth 100000
set_option maxHeartbeats 4000000
namespace G
open PySem PySem.Spec PyProof.Rows L2
section
variable {X : Cx} {ca : Nat → Addr} {W : WX} {b : Bool} {a c : Expr} {fa fb : En → Rz D} {pos : Pos} {Φ : Fm}
/-- a statement that is never reached -/
def sBad : En → SR := fun _ => .bad
theorem ds_bad {st : Stmt} : DS ca W Φ X st sBad := ⟨fun pins s σ H E I ⟨Γ, e, r, h⟩ => h.elim⟩
end
@[simp] theorem ev_iSq (f : En → Rz D) (e : En) : iSq f e = (f e).bind itS := (rfl)
@[simp] theorem ev_itS1 (ds : List D) : itS (.lst ds) = .ok ds := (rfl)
@[simp] theorem ev_itS2 (ds : List D) : itS (.tup ds) = .ok ds := (rfl)
@[simp] theorem ev_itS3 (ns : List Int) : itS (.scr ns) = .ok (ns.map D.int) := (rfl)
@[simp] theorem ev_itS4 (x : Str) : itS (.str x) = .ok (chD x) := (rfl)
@[simp] theorem ev_iEn (f : En → Rz D) (e : En) : iEn f e = (f e).bind enS := (rfl)
@[simp] theorem ev_enS1 (ds : List D) : enS (.lst ds) = .ok (enD 0 ds) := (rfl)
@[simp] theorem ev_enS2 (ds : List D) : enS (.tup ds) = .ok (enD 0 ds) := (rfl)
@[simp] theorem ev_iZp (f g : En → Rz D) (e : En) : iZp f g e = (f e).bind fun x => (g e).bind fun y => zpS x y := (rfl)
@[simp] theorem ev_zpS1 (xs ys : List D) : zpS (.lst xs) (.lst ys) = .ok (zpD xs ys) := (rfl)
@[simp] theorem ev_zpS2 (xs ys : List D) : zpS (.tup xs) (.tup ys) = .ok (zpD xs ys) := (rfl)
@[simp] theorem ev_Ch (g g' : D → D → Option D) (fa fb fc : En → Rz D) (e : En) : eCh g g' fa fb fc e = (fa e).bind fun x => (fb e).bind fun y => (Rz.ofO (g x y)).bind fun z => (toB z).bind fun k => if k = true then (fc e).bind fun u => Rz.ofO (g' y u) else .ok (.bl false) := (rfl)
@[simp] theorem ev_Sl (f : En → Rz D) (lo hi : Option (En → Rz D)) (e : En) : eSl f lo hi e = (f e).bind fun x => (evO lo e).bind fun l => (evO hi e).bind fun h => Rz.ofO (slD x l h) := (rfl)
@[simp] theorem ev_O0 (e : En) : evO none e = .ok none := (rfl)
def iO : D → Rz (Option Int) := fun d => match d with | .int i => .ok (some i) | _ => .bad
@[simp] theorem ev_O1 (f : En → Rz D) (e : En) : evO (some f) e = (f e).bind iO := (rfl)
@[simp] theorem ev_iO (i : Int) : iO (.int i) = .ok (some i) := (rfl)
@[simp] theorem ev_slT (ds : List D) (l h : Option Int) : slD (.tup ds) l h = some (.tup (cutL ds l h)) := (rfl)
@[simp] theorem ev_slL (ds : List D) (l h : Option Int) : slD (.lst ds) l h = some (.lst (cutL ds l h)) := (rfl)
theorem cut_hi {α : Type} (xs : List α) (i : Nat) : cutL xs none (some (i : Int)) = xs.take i := by
  unfold cutL
  rw [HT.sIx_nat, HT.sIx_none]
  simp [List.take_eq_take_iff]
theorem cut_lo {α : Type} (xs : List α) (i : Nat) : cutL xs (some (i : Int)) none = xs.drop i := by
  unfold cutL
  rw [HT.sIx_nat, HT.sIx_none]
  rw [List.take_of_length_le (by rw [List.length_drop]; omega)]
  by_cases h : i ≤ xs.length
  · rw [Nat.min_eq_left h]
  · rw [Nat.min_eq_right (by omega), List.drop_length, List.drop_of_length_le (by omega)]
/-! ### equality of what holds no list -/
end G
set_option Elab.async false
set_option linter.all false
set_option maxRecDepth 100000
set_option maxHeartbeats 4000000
namespace G
open PySem PySem.Spec PyProof.Rows L2
theorem tuple_mul1 (l : Addr) (items : Array Value) (n : Nat) (dd : Option Addr) (sl : Array (Option Value)) (x : Int) (u : Tok) (c0 : (decide (x < -(2 ^ 63)) || decide (x ≥ 2 ^ 63)) = false) (c1 : (items.isEmpty || x == 1) = true) :
    Meets (Builtin.«tuple.__mul__» ⟨[.ref l, .int x u], []⟩) (fun _ R s => s.heap.get? l = some { cls := .type "tuple", dict := dd, data := .seq items n, slots := sl } ∧ R (.ok (.ret (Value.ref l))) s) :=
  .of_wp fun prog w A R s h => by
    obtain ⟨hp, g, d, tk, os⟩ := s
    obtain ⟨hl, h⟩ := h
    have f1 := AutoSeq1.idx_int
    wp_walk using wpAny_loadPart' hl
    repeat (first
      | (refine wpAny_ite_false (decide_eq_false (by rw [c0]; exact Bool.false_ne_true)) ?_; wp_walk using wpAny_loadPart' hl)
      | (refine wpAny_ite_true (decide_eq_true (by rw [c1])) ?_; wp_walk using wpAny_loadPart' hl))
    exact ⟨_, rfl, h⟩
theorem tuple_mul0 (l : Addr) (items : Array Value) (n : Nat) (dd : Option Addr) (sl : Array (Option Value)) (x : Int) (u : Tok) (c0 : (decide (x < -(2 ^ 63)) || decide (x ≥ 2 ^ 63)) = false) (c1 : (items.isEmpty || x == 1) = false) (c2 : (decide (x ≤ 0) || items.isEmpty) = true) :
    Meets (Builtin.«tuple.__mul__» ⟨[.ref l, .int x u], []⟩) (fun _ R s => s.heap.get? l = some { cls := .type "tuple", dict := dd, data := .seq items n, slots := sl } ∧
      R (.ok (.ret (Value.ref s.heap.objs.size))) { s with heap := s.heap.push { cls := Value.type "tuple", data := Data.seq #[] }, toks := s.toks }) :=
  .of_wp fun prog w A R s h => by
    obtain ⟨hp, g, d, tk, os⟩ := s
    obtain ⟨hl, h⟩ := h
    have f1 := AutoSeq1.idx_int
    wp_walk using wpAny_loadPart' hl
    repeat (first
      | (refine wpAny_ite_false (decide_eq_false (by rw [c0]; exact Bool.false_ne_true)) ?_; wp_walk using wpAny_loadPart' hl)
      | (refine wpAny_ite_false (decide_eq_false (by rw [c1]; exact Bool.false_ne_true)) ?_; wp_walk using wpAny_loadPart' hl)
      | (refine wpAny_ite_true (decide_eq_true (by rw [c2])) ?_; wp_walk using wpAny_loadPart' hl))
    exact ⟨_, rfl, h⟩
section
variable {X : Cx}
def rRepS (K : PySem.W.Frag) : R2 := fun x y H Q => ∃ l k xs, x = .ref l ∧ y = .int k ∧ SqT K H l xs ∧ (xs = [] ∨ k = 1) ∧ -(2 ^ 63) ≤ k ∧ k < 2 ^ 63 ∧ Q (.ref l) H
theorem op_repS : OpR X (binaryOp .Mult) (rRepS X.K) := by
  intro pins s σ H x y v u Q I rx ry h
  obtain ⟨l, k, xs, rfl, rfl, hT, hne, h1, h2, q⟩ := h
  cases rx
  obtain ⟨t, rfl⟩ := ry
  obtain ⟨its, r, ⟨⟨cls, dd, data, sl⟩, ho, hc, n, hd⟩, hs⟩ := I.tuple hT
  simp only at hc hd
  subst hc hd
  have hle : its.length = xs.length := r.length.symm
  have c0 : (decide (k < -(2 ^ 63)) || decide (k ≥ 2 ^ 63)) = false := by
    rw [decide_eq_false (by omega), decide_eq_false (by omega)] <;> rfl
  have c1 : (its.toArray.isEmpty || k == 1) = true := by
    rcases hne with rfl | rfl
    · have : its = [] := List.eq_nil_of_length_eq_zero hle
      subst this
      rfl
    · simp
  exact wpAny_binaryOp_repeat_ref (T := "tuple") (U := "int") (by decide) ⟨_, ho, rfl⟩ (fun s' => typeIs_int s' k t) noFill_tuple_mul F.fills_int_mul F.slot_int_rmul repeat_tuple F.slot_int_index.lookup
    (call_meets F.slot_int_rmul (typeIs_int s k t) F.entry_int_rmul (F.args_int_rmul_2 _ _) (int_rmul_tuple k t l its.toArray n dd sl)
      ⟨ho, rfl, ⟨_, ho, rfl⟩, call_meets F.slot_tuple_mul ⟨_, ho, rfl⟩ F.entry_tuple_mul (F.args_tuple_mul_2 _ _) (tuple_mul1 l its.toArray n dd sl k t c0 c1) ⟨ho, ⟨.ref l, H, I, rfl, q⟩⟩⟩)
def rRepZ (K : PySem.W.Frag) : R2 := fun x y H Q => ∃ l k xs, x = .ref l ∧ y = .int k ∧ SqT K H l xs ∧ xs ≠ [] ∧ k ≤ 0 ∧ -(2 ^ 63) ≤ k ∧ ∀ p, H p = none → Q (.ref p) (upd H p (.tup []))
theorem op_repZ : OpR X (binaryOp .Mult) (rRepZ X.K) := by
  intro pins s σ H x y v u Q I rx ry h
  obtain ⟨l, k, xs, rfl, rfl, hT, hne, h1, h2, q⟩ := h
  cases rx
  obtain ⟨t, rfl⟩ := ry
  obtain ⟨its, r, ⟨⟨cls, dd, data, sl⟩, ho, hc, n, hd⟩, hs⟩ := I.tuple hT
  simp only at hc hd
  subst hc hd
  have hle : its.length = xs.length := r.length.symm
  have hn : its ≠ [] := fun e => hne (by
    rw [e] at hle
    exact List.eq_nil_of_length_eq_zero hle.symm)
  have hi : its.toArray.isEmpty = false := by
    cases its with
    | nil => exact absurd rfl hn
    | cons a b => rfl
  have c0 : (decide (k < -(2 ^ 63)) || decide (k ≥ 2 ^ 63)) = false := by
    rw [decide_eq_false (by omega), decide_eq_false (by omega)] <;> rfl
  have c1 : (its.toArray.isEmpty || k == 1) = false := by
    rw [hi, Bool.false_or]
    exact beq_eq_false_iff_ne.mpr (by omega)
  have c2 : (decide (k ≤ 0) || its.toArray.isEmpty) = true := by
    rw [decide_eq_true h1]
    rfl
  refine wpAny_binaryOp_repeat_ref (T := "tuple") (U := "int") (by decide) ⟨_, ho, rfl⟩ (fun s' => typeIs_int s' k t) noFill_tuple_mul F.fills_int_mul F.slot_int_rmul repeat_tuple F.slot_int_index.lookup
    (call_meets F.slot_int_rmul (typeIs_int s k t) F.entry_int_rmul (F.args_int_rmul_2 _ _) (int_rmul_tuple k t l its.toArray n dd sl)
      ⟨ho, rfl, ⟨_, ho, rfl⟩, call_meets F.slot_tuple_mul ⟨_, ho, rfl⟩ F.entry_tuple_mul (F.args_tuple_mul_2 _ _) (tuple_mul0 l its.toArray n dd sl k t c0 c1 c2) ⟨ho, ?_⟩⟩)
  refine ⟨.ref s.heap.objs.size, _, I.laid (t' := s.toks) (o := .tup []) (fun b ob q => Heap.get?_push_of_some _ q) (Nat.le_refl _) ?_, rfl, q _ (I.hok.fresh (Nat.le_refl _))⟩
  exact ⟨by rw [sizeLine_eq]; simp, [], .nil, IsTup.new _ _⟩

/-! ### x * n -/
def rpt {α : Type} (k : Int) (xs : List α) : List α := (List.replicate k.toNat xs).flatten
def repD : D → D → Option D
  | .tup ds, .int k => if ds.length ≤ 1000 ∧ k ≤ 1000 ∧ -(2 ^ 62) ≤ k then some (.tup (rpt k ds)) else none
  | .lst ds, .int k => if ds.length ≤ 1000 ∧ k ≤ 1000 ∧ -(2 ^ 62) ≤ k then some (.lst (rpt k ds)) else none
  | _, _ => none
def rRepA (K : PySem.W.Frag) : R2 := fun x y H Q => rRepT K x y H Q ∨ rRepS K x y H Q ∨ rRepZ K x y H Q ∨ rRep x y H Q
theorem op_repA : OpR X (binaryOp .Mult) (rRepA X.K) := op_repT.or (op_repS.or (op_repZ.or op_rep))
theorem rpt_nil {α : Type} (k : Int) : rpt k ([] : List α) = [] := by
  unfold rpt
  induction k.toNat with
  | zero => rfl
  | succ n ih => rw [List.replicate_succ, List.flatten_cons, ih]; rfl
theorem rpt_one {α : Type} (xs : List α) : rpt 1 xs = xs := by
  show [xs].flatten = xs
  simp
theorem rpt_neg {α : Type} {k : Int} (h : k ≤ 0) (xs : List α) : rpt k xs = [] := by
  unfold rpt
  rw [show k.toNat = 0 by omega]
  rfl
theorem opd_rep {K : PySem.W.Frag} : OpD K (rRepA K) repD := by
  intro Γ H x y dx dy d Q al rx ry hd k
  unfold repD at hd
  split at hd
  · split at hd
    · rename_i ds m hl
      cases hd
      have rx' := rx
      unfold Rep at rx
      obtain ⟨p, vs, rfl, hp, t⟩ := rx
      cases rep_int ry
      have lv := t.length
      by_cases q1 : ds = [] ∨ m = 1
      · refine .inr (.inl ⟨p, m, vs, rfl, rfl, hp, ?_, by omega, by omega, k _ _ (Same.refl _) ?_⟩)
        · rcases q1 with rfl | rfl
          · exact .inl (List.eq_nil_of_length_eq_zero (by rw [lv]; rfl))
          · exact .inr rfl
        · have : rpt m ds = ds := by
            rcases q1 with rfl | rfl
            · exact rpt_nil _
            · exact rpt_one _
          rw [this]; exact rx'
      · have hne : vs ≠ [] := fun e => q1 (.inl (List.eq_nil_of_length_eq_zero (by rw [← lv, e]; rfl)))
        by_cases q2 : m ≤ 0
        · refine .inr (.inr (.inl ⟨p, m, vs, rfl, rfl, hp, hne, q2, by omega, fun q hq => k _ _ (same_new hq) ?_⟩))
          rw [rpt_neg q2]
          unfold Rep
          exact ⟨q, _, rfl, SqT.of upd_same, .nil⟩
        · refine .inl ⟨p, m, vs, rfl, rfl, hp, hne, ?_, by omega, by omega, fun q hq => k _ _ (same_new hq) ?_⟩
          · have : m ≠ 1 := fun e => q1 (.inr e)
            omega
          · unfold Rep
            exact ⟨q, _, rfl, SqT.of upd_same, (t.rep _).same (same_new hq)⟩
    · cases hd
  · split at hd
    · rename_i ds m hl
      cases hd
      unfold Rep at rx
      obtain ⟨p, vs, rfl, hp, _, t⟩ := rx
      cases rep_int ry
      have lv := t.length
      refine .inr (.inr (.inr ⟨p, m, vs, rfl, rfl, hp, by omega, by omega, ?_, fun q hq => k _ _ (same_new hq) ?_⟩))
      · rw [sizeLine_eq, lv]
        have a1 : ds.length * m.toNat ≤ 1000 * 1000 := Nat.mul_le_mul (by omega) (by omega)
        omega
      · unfold Rep
        have ho : Γ.own q = none := by
          cases z : Γ.own q with
          | none => rfl
          | some j => exact absurd hq (al q (by rw [z]; exact fun y => nomatch y))
        exact ⟨q, _, rfl, upd_same, ho, (t.rep _).same (same_new hq)⟩
    · cases hd
  · cases hd
end
section
variable {X : Cx} {ca : Nat → Addr} {W : WX} {b : Bool} {a c : Expr} {fa fb : En → Rz D} {pos : Pos} {Φ : Fm}
theorem de_rep (ha : DE b ca W X a fa) (hb : DE b ca W X c fb) : DE b ca W X (.BinOp a .Mult c pos) (eBin repD fa fb) := de_bin op_repA opd_rep ha hb
/-! ### list(range(a, b)) -/
instance (i j : Int) : Decidable (RgOk i j) := by unfold RgOk; exact inferInstance
def lrg (x y : D) : Rz (List D) := match x, y with
  | .int i, .int j => if RgOk i j then .ok (rngD i (j - i).toNat) else .bad
  | _, _ => .bad
def eRg (f g : En → Rz D) : En → Rz (List D) := fun e => (f e).bind fun x => (g e).bind fun y => lrg x y
theorem repL_rng {K : PySem.W.Frag} {Γ : Gm} {H : Hp} : ∀ (n : Nat) (i : Int), RepL K Γ H (rngD i n) ((List.range n).map fun k => V.int (i + (k : Nat)))
  | 0, i => .nil
  | n + 1, i => by
    rw [rngD, List.range_succ_eq_map, List.map_cons, List.map_map]
    refine .cons ?_ ?_
    · rw [show i + ((0 : Nat) : Int) = i by simp]; exact .int
    · have := repL_rng (K := K) (Γ := Γ) (H := H) n (i + 1)
      have e : ((fun k => V.int (i + (k : Nat))) ∘ Nat.succ) = fun k : Nat => V.int (i + 1 + (k : Nat)) := by
        funext k
        simp only [Function.comp, Nat.succ_eq_add_one]
        congr 1
        push_cast
        omega
      rw [e]
      exact this
theorem dl_listRg {p p2 pos2 : Pos} (hc : X.calm = true) (hm : X.mg "list" = none) (hm2 : X.mg "range" = none) (ha : DE true ca W X a fa) (hb : DE true ca W X c fb) (hg : Gl X "list" := by rfl) (hg2 : Gl X "range" := by rfl)
    (na : starEach [a, c] X.env = (false, eval a X.env) :: starEach [c] X.env := by rfl) (na2 : starEach [c] X.env = (false, eval c X.env) :: starEach [] X.env := by rfl)
    (hp : (backTo pos2 (starEach [c] X.env)).any (fun x => x.fst) = false := by rfl) (na3 : starEach [.Call (.Name "range" p2) [a, c] [] pos2] X.env = (false, eval (.Call (.Name "range" p2) [a, c] [] pos2) X.env) :: starEach [] X.env := by rfl) :
    DL ca W X (.Call (.Name "list" p) [.Call (.Name "range" p2) [a, c] [] pos2] [] pos) (eRg fa fb) := by
  refine pe_imp (pe_listRg hc hg hm (prg_2 hg2 hm2 ha hb na na2 hp) na3) fun σ H Q ⟨Γ, e, r, h⟩ => ⟨Γ, e, r, h.bind.imp fun dx H1 s1 k1 x rx => ⟨Γ, e, r.same s1, k1.bind.imp fun dy H2 s2 k2 y ry => ?_⟩⟩
  cases dx with
  | int i =>
    cases dy with
    | int j =>
      have k2 : Out ca W σ H2 (fun ds H' => ∀ p vs, H p = none → H' p = some (.lst vs) → RepL X.K (Γ.mark p X.N.length) H' ds vs → Q (.ref p) H') (if RgOk i j then .ok (rngD i (j - i).toNat) else .bad) := k2
      by_cases hj : RgOk i j
      · rw [if_pos hj] at k2
        exact ⟨i, j, rep_int rx, rep_int ry, hj, fun q hq => k2 _ (same_new hq) q _ ((s1.trans s2).free hq) upd_same (repL_rng _ _)⟩
      · rw [if_neg hj] at k2; exact k2.elim
    | _ => exact k2.elim
  | _ => exact k2.elim
end
@[simp] theorem ev_Rg (f g : En → Rz D) (e : En) : eRg f g e = (f e).bind fun x => (g e).bind fun y => lrg x y := (rfl)
theorem lrg_ok {i j : Int} (h : -1000000 ≤ i) (h2 : i ≤ 1000000) (h3 : -1000000 ≤ j) (h4 : j ≤ 1000000) : lrg (.int i) (.int j) = .ok (rngD i (j - i).toNat) := by
  show (if _ then _ else _) = _
  rw [if_pos ⟨by omega, by omega, by omega, by omega, by omega⟩]
theorem ev_repT {ds : List D} {k : Int} (h : ds.length ≤ 1000) (h2 : k ≤ 1000) (h3 : -1000 ≤ k) : repD (.tup ds) (.int k) = some (.tup (rpt k ds)) := by
  show (if _ then _ else _) = _
  rw [if_pos ⟨h, h2, by omega⟩]
theorem ev_repL {ds : List D} {k : Int} (h : ds.length ≤ 1000) (h2 : k ≤ 1000) (h3 : -1000 ≤ k) : repD (.lst ds) (.int k) = some (.lst (rpt k ds)) := by
  show (if _ then _ else _) = _
  rw [if_pos ⟨h, h2, by omega⟩]
end G
set_option Elab.async false
set_option linter.all false
set_option maxRecDepth 100000
set_option maxHeartbeats 4000000
namespace G
open PySem PySem.Spec PyProof.Rows L2
/-! ### isinstance -/
def tyN : D → Option String
  | .non => some "NoneType"
  | .bl _ => some "bool"
  | .int _ => some "int"
  | .str _ => some "str"
  | .tup _ => some "tuple"
  | .lst _ => some "list"
  | _ => none
theorem rep_ty {K : PySem.W.Frag} {Γ : Gm} {H : Hp} {d : D} {v : V} {t : String} (r : Rep K Γ H d v) (h : tyN d = some t) : TyX K H v (.type t) := by
  cases d with
  | non => cases h; unfold Rep at r; subst r; exact .base .non
  | bl b => cases h; unfold Rep at r; subst r; exact .base (.bl _)
  | int i => cases h; unfold Rep at r; subst r; exact .base (.int _)
  | str x => cases h; unfold Rep at r; subst r; exact .base (.str _)
  | tup ds =>
    cases h
    unfold Rep at r
    obtain ⟨a, vs, rfl, hs, _⟩ := r
    rcases hs with (h | ⟨o, h⟩) | ⟨o, its, n, h1, h2, _⟩
    · exact .base (.tup h)
    · exact .fTuple h
    · exact .kTuple h1 h2
  | lst ds =>
    cases h
    unfold Rep at r
    obtain ⟨a, vs, rfl, hs, _⟩ := r
    exact .base (.lst hs)
  | _ => cases h
def isiG (T : String) : D → Option Bool
  | .non => if T = "tuple" ∨ T = "bool" ∨ T = "int" ∨ T = "str" then some false else none
  | .bl _ => if T = "bool" ∨ T = "int" then some true else if T = "tuple" ∨ T = "str" then some false else none
  | .int _ => if T = "int" then some true else if T = "tuple" ∨ T = "bool" ∨ T = "str" then some false else none
  | .str _ => if T = "str" then some true else if T = "tuple" ∨ T = "bool" ∨ T = "int" then some false else none
  | .tup _ => if T = "tuple" then some true else if T = "str" ∨ T = "bool" ∨ T = "int" then some false else none
  | .lst _ => if T = "tuple" ∨ T = "str" ∨ T = "bool" ∨ T = "int" then some false else none
  | _ => none
theorem isi_ok {T : String} {d : D} {r : Bool} (h : isiG T d = some r) : ∃ t, tyN d = some t ∧ kitB t T = some r := by
  unfold isiG at h
  split at h
  all_goals first
    | (repeat' split at h)
    | skip
  all_goals first
    | (cases h; done)
    | (cases h; rename_i z; (rcases z with rfl | rfl | rfl | rfl) <;> exact ⟨_, rfl, by decide +kernel⟩)
    | (cases h; rename_i z; (rcases z with rfl | rfl | rfl) <;> exact ⟨_, rfl, by decide +kernel⟩)
    | (cases h; rename_i z; (rcases z with rfl | rfl) <;> exact ⟨_, rfl, by decide +kernel⟩)
    | (cases h; rename_i z; subst z; exact ⟨_, rfl, by decide +kernel⟩)
def eIsi (T : String) (f : En → Rz D) : En → Rz D := fun e => (f e).bind fun d => Rz.ofO ((isiG T d).map D.bl)
def isi2 (T U : String) (d : D) : Option Bool := (isiG T d).bind fun a => if a = true then some true else isiG U d
def eIsi2 (T U : String) (f : En → Rz D) : En → Rz D := fun e => (f e).bind fun d => Rz.ofO ((isi2 T U d).map D.bl)
section
variable {X : Cx} {ca : Nat → Addr} {W : WX} {b : Bool} {a c : Expr} {fa fb : En → Rz D} {pos : Pos} {Φ : Fm}
theorem de_isi {T : String} {x : Str} {p p2 : Pos} (hm : X.mg "isinstance" = none) (hm2 : X.mg x = none) (hv : bootBuiltins x = some (.type T)) (ha : DE b ca W X a fa) (hg : Gl X "isinstance" := by rfl) (hg2 : Gl X x := by rfl) (hn2 : x ≠ "__name__" := by decide) (hd2 : (x == ("__debug__" : Str)) = false := by decide)
    (na : starEach [a, .Name x p2] X.env = (false, eval a X.env) :: starEach [.Name x p2] X.env := by rfl) (na2 : starEach [.Name x p2] X.env = (false, eval (.Name x p2) X.env) :: starEach [] X.env := by rfl) (hpl : (backTo pos (starEach [.Name x p2] X.env)).any (·.1) = false := by rfl) :
    DE b ca W X (.Call (.Name "isinstance" p) [a, .Name x p2] [] pos) (eIsi T fa) := by
  refine pe_imp (pe_callB call_isi hg hm PyProof.Rows.boot_isinstance (pa_cons ha (pa_cons (pe_bltn (v := .ty T) hg2 hm2 hv rfl hn2 hd2) pa_nil na2) na) (by decide) (by decide) na hpl) fun σ H Q ⟨Γ, e, r, h⟩ => ⟨Γ, e, r, h.bind.imp fun d H1 s k v rv => ?_⟩
  obtain ⟨z, hz, k⟩ := k.ofO
  cases q : isiG T d with
  | none => rw [q] at hz; cases hz
  | some rb =>
    rw [q] at hz
    cases hz
    obtain ⟨t, h1, h2⟩ := isi_ok q
    exact ⟨v, .ty T, .type t, .type T, rb, rfl, .ty T, rep_ty rv h1, kit_ty h2, k H1 (Same.refl _) _ .bl⟩
theorem de_isi2 {T U : String} {x y : Str} {p p2 p3 tpos : Pos} {kk : Nat} (hm : X.mg "isinstance" = none) (hm2 : X.mg x = none) (hm3 : X.mg y = none) (hv : bootBuiltins x = some (.type T)) (hv3 : bootBuiltins y = some (.type U)) (ha : DE b ca W X a fa) (hg : Gl X "isinstance" := by rfl) (hg2 : Gl X x := by rfl) (hg3 : Gl X y := by rfl) (hn2 : x ≠ "__name__" := by decide) (hd2 : (x == ("__debug__" : Str)) = false := by decide) (hn3 : y ≠ "__name__" := by decide) (hd3 : (y == ("__debug__" : Str)) = false := by decide)
    (nt : starEach [.Name x p2, .Name y p3] X.env = (false, eval (.Name x p2) X.env) :: starEach [.Name y p3] X.env := by rfl) (nt2 : starEach [.Name y p3] X.env = (false, eval (.Name y p3) X.env) :: starEach [] X.env := by rfl)
    (na : starEach [a, .Tuple [.Name x p2, .Name y p3] kk tpos] X.env = (false, eval a X.env) :: starEach [.Tuple [.Name x p2, .Name y p3] kk tpos] X.env := by rfl) (na2 : starEach [.Tuple [.Name x p2, .Name y p3] kk tpos] X.env = (false, eval (.Tuple [.Name x p2, .Name y p3] kk tpos) X.env) :: starEach [] X.env := by rfl) (hpl : (backTo pos (starEach [.Tuple [.Name x p2, .Name y p3] kk tpos] X.env)).any (·.1) = false := by rfl) :
    DE b ca W X (.Call (.Name "isinstance" p) [a, .Tuple [.Name x p2, .Name y p3] kk tpos] [] pos) (eIsi2 T U fa) := by
  refine pe_imp (pe_callB call_isiT hg hm PyProof.Rows.boot_isinstance (pa_cons ha (pa_cons (pe_tup (pa_cons (pe_bltn (v := .ty T) hg2 hm2 hv rfl hn2 hd2) (pa_cons (pe_bltn (v := .ty U) hg3 hm3 hv3 rfl hn3 hd3) pa_nil nt2) nt)) pa_nil na2) na) (by decide) (by decide) na hpl) fun σ H Q ⟨Γ, e, r, h⟩ => ⟨Γ, e, r, h.bind.imp fun d H1 s k v rv => ?_⟩
  refine ⟨by rw [sizeLine_eq]; show 2 ≤ 16777216; decide, fun q hq => ?_⟩
  obtain ⟨z, hz, k⟩ := k.ofO
  cases q1 : isiG T d with
  | none => unfold isi2 at hz; rw [q1] at hz; cases hz
  | some r1 =>
    obtain ⟨t, h1, h2⟩ := isi_ok q1
    cases r1 with
    | true =>
      unfold isi2 at hz
      rw [q1] at hz
      cases hz
      exact ⟨v, q, [.ty T, .ty U], .type t, [.type T, .type U], true, rfl, upd_same, .cons (.ty T) (.cons (.ty U) .nil), rep_ty (rv.same (same_new hq)) h1, kitAny_cons (kit_ty h2) (fun z => nomatch z) (fun _ => rfl), k _ (same_new hq) _ .bl⟩
    | false =>
      unfold isi2 at hz
      rw [q1] at hz
      cases q2 : isiG U d with
      | none => simp [q2] at hz
      | some r2 =>
        simp only [q2, Option.bind_some, Bool.false_eq_true, ite_false, Option.map_some] at hz
        cases hz
        obtain ⟨t', h1', h2'⟩ := isi_ok q2
        rw [h1] at h1'
        cases h1'
        exact ⟨v, q, [.ty T, .ty U], .type t, [.type T, .type U], r2, rfl, upd_same, .cons (.ty T) (.cons (.ty U) .nil), rep_ty (rv.same (same_new hq)) h1, kitAny_cons (kit_ty h2) (fun _ => kitAny_cons (kit_ty h2') (fun z => by rw [z]; exact kitAny_nil) (fun z => z)) (fun z => nomatch z), k _ (same_new hq) _ .bl⟩
/-! ### all -/
def blL : List D → Option (List Bool)
  | [] => some []
  | .bl k :: ds => (blL ds).map (k :: ·)
  | _ :: _ => none
def allD : List D → Option D
  | [.lst ds] => (blL ds).map fun bs => .bl (bs.all id)
  | _ => none
theorem blL_rep {K : PySem.W.Frag} {Γ : Gm} {H : Hp} : ∀ {ds : List D} {bs : List Bool} {vs : List V}, blL ds = some bs → RepL K Γ H ds vs → vs = bs.map V.bl
  | [], bs, vs, h, r => by
    cases h
    unfold RepL at r
    subst r
    rfl
  | d :: ds, bs, vs, h, r => by
    unfold RepL at r
    obtain ⟨v, rr, rfl, rv, rl⟩ := r
    cases d with
    | bl k =>
      simp only [blL] at h
      cases q : blL ds with
      | none => rw [q] at h; cases h
      | some cs =>
        rw [q] at h
        cases h
        rw [rep_bl rv, blL_rep q rl]
        rfl
    | _ => simp [blL] at h
theorem fnv_all {K : PySem.W.Frag} : FnV K (rAll K) allD := by
  intro Γ H xs ds d Q al r hd k
  unfold allD at hd
  split at hd
  · rename_i l
    obtain ⟨v, rfl, rv⟩ := repL1 r
    cases q : blL l with
    | none => rw [q] at hd; cases hd
    | some bs =>
      rw [q] at hd
      cases hd
      unfold Rep at rv
      obtain ⟨p, vs, rfl, hp, _, t⟩ := rv
      have := blL_rep q t
      subst this
      exact ⟨p, bs, rfl, SqL.of hp, k _ _ (Same.refl _) .bl⟩
  · cases hd
theorem de_all {p : Pos} (hc : X.calm = true) (hm : X.mg "all" = none) (ha : DE b ca W X a fa) (hg : Gl X "all" := by rfl) (he : starEach [a] X.env = (false, eval a X.env) :: starEach [] X.env := by rfl) (hpl : (backTo pos (starEach [] X.env)).any (·.1) = false := by rfl) : DE b ca W X (.Call (.Name "all" p) [a] [] pos) (eFn allD [fa]) :=
  de_bltn (cr_all hc) fnv_all hm (by decide +kernel) (da_cons ha da_nil he) hg (by decide) (by decide) he hpl
end
@[simp] theorem ev_Isi (T : String) (f : En → Rz D) (e : En) : eIsi T f e = (f e).bind fun d => Rz.ofO ((isiG T d).map D.bl) := (rfl)
@[simp] theorem ev_Isi2 (T U : String) (f : En → Rz D) (e : En) : eIsi2 T U f e = (f e).bind fun d => Rz.ofO ((isi2 T U d).map D.bl) := (rfl)
end G
set_option Elab.async false
set_option linter.all false
set_option maxRecDepth 100000
set_option maxHeartbeats 4000000
namespace G
open PySem PySem.Spec PyProof.Rows L2
section
variable {X : Cx} {ca : Nat → Addr} {W : WX} {b : Bool} {a c c2 : Expr} {fa fb fc : En → Rz D} {pos : Pos} {Φ : Fm}
/-! ### list(x) -/
def lsD : D → Rz (List D)
  | .tup ds => .ok ds
  | .lst ds => .ok ds
  | _ => .bad
def eLs (f : En → Rz D) : En → Rz (List D) := fun e => (f e).bind lsD
theorem dl_list {p : Pos} (hm : X.mg "list" = none) (ha : DE true ca W X a fa) (hg : Gl X "list" := by rfl) (he : starEach [a] X.env = (false, eval a X.env) :: starEach [] X.env := by rfl) (hpl : (backTo pos (starEach [] X.env)).any (·.1) = false := by rfl) :
    DL ca W X (.Call (.Name "list" p) [a] [] pos) (eLs fa) := by
  refine pe_imp (pe_callTy call_list_of hg hm PyProof.Rows.boot_list (pa_cons ha pa_nil he) (by decide) (by decide) he hpl) fun σ H Q ⟨Γ, e, r, h⟩ => ⟨Γ, e, r, h.bind.imp fun d H1 s k v rv => ?_⟩
  cases d with
  | tup ds =>
    unfold Rep at rv
    obtain ⟨p, vs, rfl, hp, t⟩ := rv
    exact ⟨p, vs, rfl, .inr hp, fun l hl => k _ (same_new hl) l vs (s.free hl) upd_same ((t.marked hl).same (same_new hl))⟩
  | lst ds =>
    unfold Rep at rv
    obtain ⟨p, vs, rfl, hp, _, t⟩ := rv
    exact ⟨p, vs, rfl, .inl (SqL.of hp), fun l hl => k _ (same_new hl) l vs (s.free hl) upd_same ((t.marked hl).same (same_new hl))⟩
  | _ => exact k.elim
/-! ### i ** j -/
def powD : D → D → Option D
  | .int i, .int j => if CPow i j then some (.int (i ^ j.toNat)) else none
  | _, _ => none
where CPow (i j : Int) : Bool := decide (0 ≤ j) && decide (j ≤ 1000000) && decide (i.natAbs < 2 ^ 64)
theorem opd_pow {K : PySem.W.Frag} : OpD K (rI L2.CPow fun i j => .int (i ^ j.toNat)) powD := by
  intro Γ H x y dx dy d Q al rx ry hd k
  unfold powD at hd
  split at hd
  · split at hd
    · rename_i i j hc
      cases hd
      simp only [powD.CPow, Bool.and_eq_true, decide_eq_true_eq] at hc
      exact ⟨i, j, rep_int rx, rep_int ry, ⟨hc.1.1, hc.1.2, hc.2⟩, k _ _ (Same.refl _) .int⟩
    · cases hd
  · cases hd
theorem de_pow (ha : DE b ca W X a fa) (hb : DE b ca W X c fb) : DE b ca W X (.BinOp a .Pow c pos) (eBin powD fa fb) := de_bin op_pow opd_pow ha hb
/-! ### max of a tuple of ints -/
def inL : List D → Option (List Int)
  | [] => some []
  | .int k :: ds => (inL ds).map (k :: ·)
  | _ :: _ => none
theorem inL_eq : ∀ {ds : List D} {ns : List Int}, inL ds = some ns → ds = ns.map D.int
  | [], ns, h => by cases h; rfl
  | d :: ds, ns, h => by
    cases d with
    | int k =>
      simp only [inL] at h
      cases q : inL ds with
      | none => rw [q] at h; cases h
      | some cs => rw [q] at h; cases h; rw [List.map_cons, inL_eq q]
    | _ => simp [inL] at h
theorem inL_map : ∀ ns : List Int, inL (ns.map D.int) = some ns
  | [] => rfl
  | n :: ns => by rw [List.map_cons, inL, inL_map ns]; rfl
def maxTD : List D → Option D
  | [.tup ds] => (inL ds).bind fun ns => match ns with | [] => none | n :: ns => some (.int (ns.foldl max n))
  | _ => none
def rMaxT (K : PySem.W.Frag) : List V → Hp → VK → Prop := fun vs H Q => ∃ (a : Addr) (n : Int) (ns : List Int), vs = [V.ref a] ∧ SqT K H a ((n :: ns).map V.int) ∧ Q (.int (ns.foldl max n)) H
theorem dp_ints {K : PySem.W.Frag} {H : Hp} : ∀ ns : List Int, DpAll K H (ns.map V.int) (ns.map PyData.int)
  | [] => .nil
  | n :: ns => .cons (.int n) (dp_ints ns)
theorem depth_ints : ∀ ns : List Int, PyData.depthAll (ns.map PyData.int) = 0
  | [] => by simp [PyData.depthAll]
  | n :: ns => by simp [PyData.depthAll, PyData.depth, depth_ints ns]
theorem cr_maxT (hc : X.calm = true) (hu : X.A.units + 64 < cLine) : CallR X (.builtin "max") (rMaxT X.K) := by
  intro pins s σ H vs us Q I r h
  obtain ⟨a, n, ns, rfl, hs, q⟩ := h
  obtain ⟨its, rv, ⟨o, ho, hcl, m, hd⟩, _⟩ := I.tuple hs
  rw [Vals.ref1 r]
  obtain ⟨as, ra⟩ := Dp.readsAll I _ _ its (dp_ints (n :: ns)) rv
  have ra' : ReadsAll s.heap its.toArray.toList (PyData.int n :: ns.map PyData.int) as := ra
  refine PySem.W.max_tuple_data (I.ok.hd hc) ⟨o, ho, hcl, m, hd⟩ ra' ⟨fun x hx y hy => ?_, fun x hx => ?_⟩ ?_ fun i v h' tk bs hv rd hk => ?_
  · obtain ⟨i, _, rfl⟩ := List.mem_map.mp (show x ∈ (n :: ns).map PyData.int from hx)
    obtain ⟨j, _, rfl⟩ := List.mem_map.mp (show y ∈ (n :: ns).map PyData.int from hy)
    simp [PySem.W.alike]
  · obtain ⟨i, _, rfl⟩ := List.mem_map.mp (show x ∈ (n :: ns).map PyData.int from hx)
    exact fun z => nomatch z
  · have := depth_ints (n :: ns)
    rw [List.map_cons] at this
    rw [this]
    omega
  · rw [PySem.W.maxD_ints] at rd
    cases rd
    exact ⟨.int _, H, I.kept hk, ⟨_, rfl⟩, q⟩
theorem fnv_maxT {K : PySem.W.Frag} : FnV K (rMaxT K) maxTD := by
  intro Γ H xs ds d Q al r hd k
  unfold maxTD at hd
  split at hd
  · rename_i l
    obtain ⟨v, rfl, rv⟩ := repL1 r
    cases q : inL l with
    | none => rw [q] at hd; cases hd
    | some ns =>
      rw [q] at hd
      cases ns with
      | nil => cases hd
      | cons n ns =>
        cases hd
        unfold Rep at rv
        obtain ⟨p, vs, rfl, hp, t⟩ := rv
        have e1 := inL_eq q
        have e2 : vs = (n :: ns).map V.int := by
          clear hp k
          rw [e1] at t
          generalize n :: ns = ms at t
          induction ms generalizing vs with
          | nil => unfold RepL at t; exact t
          | cons a as ih =>
            rw [List.map_cons] at t
            unfold RepL at t
            obtain ⟨v, r, rfl, rv, rl⟩ := t
            rw [rep_int rv, ih _ rl]
            rfl
        subst e2
        exact ⟨p, n, ns, rfl, hp, k _ _ (Same.refl _) .int⟩
  · cases hd
theorem de_maxT (hr : Rm X.A) {p : Pos} (hc : X.calm = true) (hm : X.mg "max" = none) (ha : DE b ca W X a fa) (hg : Gl X "max" := by rfl) (he : starEach [a] X.env = (false, eval a X.env) :: starEach [] X.env := by rfl) (hpl : (backTo pos (starEach [] X.env)).any (·.1) = false := by rfl) : DE b ca W X (.Call (.Name "max" p) [a] [] pos) (eFn maxTD [fa]) :=
  de_bltn (cr_maxT hc hr.units) fnv_maxT hm (by decide +kernel) (da_cons ha da_nil he) hg (by decide) (by decide) he hpl
/-! ### list(range(a, b, c)), c = 1 or -1 -/
def PRg3 (X : Cx) (e : Expr) (t : St → Hp → (Int → Int → Int → Hp → Prop) → Prop) : Prop :=
  ∀ (pins : List (Addr × Obj)) (s : Shared) (σ : St) (H : Hp) (Q : Int → Int → Int → Hp → Prop), Inv X pins σ H s → t σ H Q →
    wpAny (model X.prog X.w) X.A (eval e X.env) (fun x s' => ∃ r a b c t u v H', x = .ref r ∧ IsRange s'.heap r a b c t u v ∧ Inv X pins σ H' s' ∧ Q a b c H') X.xe s
def tRg3 (ta tb tc : TE) : St → Hp → (Int → Int → Int → Hp → Prop) → Prop := fun σ H Q => ta σ H fun x H1 => tb σ H1 fun y H2 => tc σ H2 fun z H3 => ∃ i j k, x = .int i ∧ y = .int j ∧ z = .int k ∧ k ≠ 0 ∧ k.natAbs < 1073741824 ∧ Q i j k H3
theorem prg_3 {ta tb tc : TE} {p pos : Pos} (hg : Gl X "range") (hm : X.mg "range" = none) (ha : PE X a ta) (hb : PE X c tb) (hd : PE X c2 tc) (na : starEach [a, c, c2] X.env = (false, eval a X.env) :: starEach [c, c2] X.env := by rfl)
    (nb : starEach [c, c2] X.env = (false, eval c X.env) :: starEach [c2] X.env := by rfl) (nc : starEach [c2] X.env = (false, eval c2 X.env) :: starEach [] X.env := by rfl) (hp : (backTo pos (starEach [c, c2] X.env)).any (·.1) = false := by rfl) : PRg3 X (.Call (.Name "range" p) [a, c, c2] [] pos) (tRg3 ta tb tc) := by
  intro pins s σ H Q I h
  refine Call_ (ld_blt I hg hm boot_range (PyProof.Rows.callWith_type1 (args_cons (thn (ha.run pins s σ H _ I h) fun v s1 ⟨x, H1, I1, r1, q1⟩ => args_cons (thn (hb.run pins s1 σ H1 _ I1 q1) fun v2 s2 ⟨y, H2, I2, r2, q2⟩ => one_arg hd I2 q2 (fun u s3 z H3 I3 r3 q => ?_) nc) nb) na) na hp))
  obtain ⟨i, j, k, rfl, rfl, rfl, k0, k1, q⟩ := q
  obtain ⟨t, rfl⟩ := r1
  obtain ⟨t', rfl⟩ := r2
  obtain ⟨t'', rfl⟩ := r3
  exact call_range_3 k0 ⟨_, i, j, k, _, _, _, H3, rfl, IsRange.new _ _ _ _ _ _ _, I3.kept fun b u e => Heap.get?_push_of_some _ e, q⟩ (.inl (PyProof.noPylong_small (by omega)))
def rgV3 (a c : Int) (n : Nat) : List V := (List.range n).map fun i => V.int (a + (i : Nat) * c)
def Rg3Ok (i j c : Int) (n : Nat) : Prop := Builtin.Range.small i j c = true ∧ Builtin.Range.rangeSize i j c = n ∧ n ≤ 1000000
def tLstRg3 (te : St → Hp → (Int → Int → Int → Hp → Prop) → Prop) : TE := fun σ H Q => te σ H fun a b c H1 => ∃ n, Rg3Ok a b c n ∧ ∀ q, H1 q = none → Q (.ref q) (upd H1 q (.lst (rgV3 a c n)))
theorem vals_rg3 {a c : Int} {n : Nat} {acc : Array Value} (h : ItemsOf (fun i v => ∃ t, v = .int (a + i * c) t) acc n) : Vals (rgV3 a c n) acc.toList := by
  have hl : acc.toList.length = n := by rw [Array.length_toList]; exact h.1
  unfold rgV3
  rw [← hl]
  refine vals_of_get _ _ fun j u hu => ?_
  obtain ⟨t, rfl⟩ := h.2 j u (by simpa using hu)
  exact ⟨t, rfl⟩
theorem pe_listRg3 {e : Expr} {te : St → Hp → (Int → Int → Int → Hp → Prop) → Prop} {p pos : Pos} (hc : X.calm = true) (hg : Gl X "list") (hm : X.mg "list" = none) (he : PRg3 X e te) (na : starEach [e] X.env = (false, eval e X.env) :: starEach [] X.env := by rfl) : PE X (.Call (.Name "list" p) [e] [] pos) (tLstRg3 te) := by
  refine ⟨fun pins s σ H Q I h => ?_⟩
  refine Call_ (ld_blt I hg hm boot_list (PyProof.Rows.callWith_type1 (args_cons (thn (he pins s σ H _ I h) fun x s1 ⟨r, a, b, c, t, u, v, H1, ex, hr, I1, n, ok, q⟩ => args_nil ?_) na) na))
  subst ex
  obtain ⟨b1, b2, b3⟩ := ok
  refine call_list_range (n := n) (I1.ok.hd hc) hr b1 b2 (by omega) fun h' tk acc c' hk e' hi => ?_
  refine ⟨.ref s1.heap.objs.size, upd H1 s1.heap.objs.size (.lst (rgV3 a c n)), I1.laid hk (Nat.le_refl _) (show ObjOk X.prog X.w _ _ _ (.lst (rgV3 a c n)) from ⟨?_, acc.toList, c', vals_rg3 hi, ?_⟩), rfl, q _ (I1.hok.fresh (Nat.le_refl _))⟩
  · unfold rgV3; rw [List.length_map, List.length_range, sizeLine_eq]; omega
  · rw [Array.toArray_toList]; exact e'
/-- i, i + w, .. : n of them -/
def stpD (i w : Int) : Nat → List D
  | 0 => []
  | n + 1 => .int i :: stpD (i + w) w n
def lrg3 (x y z : D) : Rz (List D) := match x, y, z with
  | .int i, .int j, .int k => if -1000 ≤ i ∧ i ≤ 1000 ∧ -1000 ≤ j ∧ j ≤ 1000 then (if k = 1 then .ok (stpD i 1 (j - i).toNat) else if k = -1 then .ok (stpD i (-1) (i - j).toNat) else .bad) else .bad
  | _, _, _ => .bad
def eRg3 (f g h : En → Rz D) : En → Rz (List D) := fun e => (f e).bind fun x => (g e).bind fun y => (h e).bind fun z => lrg3 x y z
theorem repL_stp {K : PySem.W.Frag} {Γ : Gm} {H : Hp} (w : Int) : ∀ (n : Nat) (i : Int), RepL K Γ H (stpD i w n) (rgV3 i w n)
  | 0, i => .nil
  | n + 1, i => by
    unfold rgV3
    rw [stpD, List.range_succ_eq_map, List.map_cons, List.map_map]
    refine .cons ?_ ?_
    · rw [show i + ((0 : Nat) : Int) * w = i by simp]; exact .int
    · have := repL_stp (K := K) (Γ := Γ) (H := H) w n (i + w)
      unfold rgV3 at this
      have e : ((fun k => V.int (i + (k : Nat) * w)) ∘ Nat.succ) = fun k : Nat => V.int (i + w + (k : Nat) * w) := by
        funext k
        simp only [Function.comp, Nat.succ_eq_add_one]
        congr 1
        push_cast
        rw [Int.add_mul, Int.one_mul]
        omega
      rw [e]
      exact this
theorem dl_listRg3 {p p2 pos2 : Pos} (hc : X.calm = true) (hm : X.mg "list" = none) (hm2 : X.mg "range" = none) (ha : DE true ca W X a fa) (hb : DE true ca W X c fb) (hd : DE true ca W X c2 fc) (hg : Gl X "list" := by rfl) (hg2 : Gl X "range" := by rfl)
    (na : starEach [a, c, c2] X.env = (false, eval a X.env) :: starEach [c, c2] X.env := by rfl) (nb : starEach [c, c2] X.env = (false, eval c X.env) :: starEach [c2] X.env := by rfl) (nc : starEach [c2] X.env = (false, eval c2 X.env) :: starEach [] X.env := by rfl)
    (hp : (backTo pos2 (starEach [c, c2] X.env)).any (fun x => x.fst) = false := by rfl) (na3 : starEach [.Call (.Name "range" p2) [a, c, c2] [] pos2] X.env = (false, eval (.Call (.Name "range" p2) [a, c, c2] [] pos2) X.env) :: starEach [] X.env := by rfl) :
    DL ca W X (.Call (.Name "list" p) [.Call (.Name "range" p2) [a, c, c2] [] pos2] [] pos) (eRg3 fa fb fc) := by
  refine pe_imp (pe_listRg3 hc hg hm (prg_3 hg2 hm2 ha hb hd na nb nc hp) na3) fun σ H Q ⟨Γ, e, r, h⟩ => ⟨Γ, e, r, h.bind.imp fun dx H1 s1 k1 x rx => ⟨Γ, e, r.same s1, k1.bind.imp fun dy H2 s2 k2 y ry => ⟨Γ, e, r.same (s1.trans s2), k2.bind.imp fun dz H3 s3 k3 z rz => ?_⟩⟩⟩
  cases dx with
  | int i =>
    cases dy with
    | int j =>
      cases dz with
      | int k =>
        have k4 : Out ca W σ H3 (fun ds H' => ∀ p vs, H p = none → H' p = some (.lst vs) → RepL X.K (Γ.mark p X.N.length) H' ds vs → Q (.ref p) H') (if -1000 ≤ i ∧ i ≤ 1000 ∧ -1000 ≤ j ∧ j ≤ 1000 then (if k = 1 then .ok (stpD i 1 (j - i).toNat) else if k = -1 then .ok (stpD i (-1) (i - j).toNat) else .bad) else .bad) := k3
        by_cases hj : -1000 ≤ i ∧ i ≤ 1000 ∧ -1000 ≤ j ∧ j ≤ 1000
        · rw [if_pos hj] at k4
          by_cases w1 : k = 1
          · rw [if_pos w1] at k4
            subst w1
            exact ⟨i, j, 1, rep_int rx, rep_int ry, rep_int rz, by decide, by decide, (j - i).toNat, ⟨small_one (by omega) (by omega) (by omega) (by omega), rangeSize_nat i j, by omega⟩, fun q hq => k4 _ (same_new hq) q _ (((s1.trans s2).trans s3).free hq) upd_same (repL_stp 1 _ _)⟩
          · rw [if_neg w1] at k4
            by_cases w2 : k = -1
            · rw [if_pos w2] at k4
              subst w2
              have rc := RgC.neg (i := i) (j := j) (by omega) (by omega) (by omega) (by omega)
              exact ⟨i, j, -1, rep_int rx, rep_int ry, rep_int rz, by decide, by decide, (i - j).toNat, ⟨rc.2.2.1, rc.2.2.2, by omega⟩, fun q hq => k4 _ (same_new hq) q _ (((s1.trans s2).trans s3).free hq) upd_same (repL_stp (-1) _ _)⟩
            · rw [if_neg w2] at k4; exact k4.elim
        · rw [if_neg hj] at k4; exact k4.elim
      | _ => exact k3.elim
    | _ => exact k3.elim
  | _ => exact k3.elim
end
@[simp] theorem ev_Rg3 (f g h : En → Rz D) (e : En) : eRg3 f g h e = (f e).bind fun x => (g e).bind fun y => (h e).bind fun z => lrg3 x y z := (rfl)
@[simp] theorem ev_Ls (f : En → Rz D) (e : En) : eLs f e = (f e).bind lsD := (rfl)
@[simp] theorem ev_lsT (ds : List D) : lsD (.tup ds) = .ok ds := (rfl)
@[simp] theorem ev_lsL (ds : List D) : lsD (.lst ds) = .ok ds := (rfl)
end G
set_option Elab.async false
set_option linter.all false
set_option maxRecDepth 100000
set_option maxHeartbeats 4000000
namespace G
open PySem PySem.Spec PyProof.Rows L2
mutual
theorem okd_plain : ∀ {k : Nat} {d : D}, okd k d = true → d.py.plain = true
  | _, .non, _ => by simp [D.py, PyData.plain]
  | _, .bl _, _ => by simp [D.py, PyData.plain]
  | _, .int _, _ => by simp [D.py, PyData.plain]
  | _, .str _, _ => by simp [D.py, PyData.plain]
  | 0, .tup _, h => by simp [okd] at h
  | 0, .lst _, h => by simp [okd] at h
  | k + 1, .tup ds, h => by simp only [okd] at h; simp only [D.py, PyData.plain]; exact okdL_plain h
  | k + 1, .lst ds, h => by simp only [okd] at h; simp only [D.py, PyData.plain]; exact okdL_plain h
  | _, .scr _, h => by simp [okd] at h
  | _, .obj _, h => by simp [okd] at h
  | _, .ntup _, h => by simp [okd] at h
  | _, .adr _, h => by simp [okd] at h
  | _, .dic _ _, h => by simp [okd] at h
theorem okdL_plain : ∀ {k : Nat} {ds : List D}, okdL k ds = true → PyData.plainAll (D.pyL ds) = true
  | _, [], _ => by simp [D.pyL, PyData.plainAll]
  | k, d :: ds, h => by
    simp only [okdL, Bool.and_eq_true] at h
    simp only [D.pyL, PyData.plainAll, Bool.and_eq_true]
    exact ⟨okd_plain h.1, okdL_plain h.2⟩
end
theorem count_py (d : D) (hd : okd 63 d = true) : ∀ (ds : List D), okdL 63 ds = true → (D.pyL ds).countP (fun y => PyData.eqv y d.py) = ds.countP fun y => eqv y d
  | [], _ => by simp [D.pyL]
  | x :: ds, h => by
    simp only [okdL, Bool.and_eq_true] at h
    have ih := count_py d hd ds h.2
    simp only [D.pyL, List.countP_cons, ih]
    rw [eqv_py x d 63 63 h.1 hd]
section
variable {X : Cx} {ca : Nat → Addr} {W : WX} {b : Bool} {a c : Expr} {fa fb : En → Rz D} {pos : Pos} {Φ : Fm}
def rCt (K : PySem.W.Frag) (tp : Bool) : V → List V → Hp → VK → Prop := fun x xs H Q => ∃ (p : Addr) (ys : List V) (y : V) (d : D) (ds : List D), x = V.ref p ∧ xs = [y] ∧ (if tp then SqT K H p ys else SqL K H p ys) ∧ DpAll K H ys (D.pyL ds) ∧ Dp K H y d.py ∧ okdL 63 ds = true ∧ okd 63 d = true ∧ Q (.int ((ds.countP fun y => eqv y d : Nat) : Int)) H
theorem mt_lcount (hu : X.A.units + 64 < cLine) : MtR X "list.count" (rCt X.K false) := by
  intro pins s σ H x xs v us Q I rx rxs h
  obtain ⟨p, ys, y, d, ds, rfl, rfl, hs, h1, h2, h3, h4, q⟩ := h
  cases rx
  obtain ⟨u, rfl, ry⟩ := vals1 rxs
  obtain ⟨its, rv, hl, _⟩ := I.list hs
  obtain ⟨as, ra⟩ := Dp.readsAll I _ _ its h1 rv
  obtain ⟨bs, rb⟩ := Dp.reads I _ y u h2 ry
  refine PySem.SeqAt.count_list_data (vs := its.toArray) hl.isList ra rb (okdL_plain h3) (okd_plain h4) (room_in h4 hu) ?_
  rw [count_py d h4 ds h3]
  exact ⟨.int _, H, I.tok _, ⟨_, rfl⟩, q⟩
theorem mt_tcount (hu : X.A.units + 64 < cLine) : MtR X "tuple.count" (rCt X.K true) := by
  intro pins s σ H x xs v us Q I rx rxs h
  obtain ⟨p, ys, y, d, ds, rfl, rfl, hs, h1, h2, h3, h4, q⟩ := h
  cases rx
  obtain ⟨u, rfl, ry⟩ := vals1 rxs
  obtain ⟨its, rv, ⟨o, ho, hcl, m, hd⟩, _⟩ := I.tuple hs
  obtain ⟨as, ra⟩ := Dp.readsAll I _ _ its h1 rv
  obtain ⟨bs, rb⟩ := Dp.reads I _ y u h2 ry
  refine PySem.SeqAt.count_tuple_data (vs := its.toArray) ⟨o, ho, hcl, m, hd⟩ ra rb (okdL_plain h3) (okd_plain h4) (room_in h4 hu) ?_
  rw [count_py d h4 ds h3]
  exact ⟨.int _, H, I.tok _, ⟨_, rfl⟩, q⟩
def ctD (ds : List D) (d : D) : Option D := if okd 63 d = true ∧ okdL 63 ds = true then some (.int ((ds.countP fun y => eqv y d : Nat) : Int)) else none
def ctL (x : D) (f : Rz D) : Rz D := match x with
  | .lst ds => f.bind fun y => Rz.ofO (ctD ds y)
  | _ => .bad
def eCnt (f g : En → Rz D) : En → Rz D := fun e => (f e).bind fun x => ctL x (g e)
theorem pe_or {e : Expr} {w w' : TE} (h : PE X e w) (h' : PE X e w') : PE X e (fun σ H R => w σ H R ∨ w' σ H R) :=
  ⟨fun pins s σ H R I q => q.elim (h.run pins s σ H R I) (h'.run pins s σ H R I)⟩
theorem de_lcount (hr : Rm X.A) {apos cpos : Pos} (ha : DE b ca W X a fa) (hb : DE b ca W X c fb) (hbase : attributeBase a "count" X.env (eval a X.env) = eval a X.env := by rfl)
    (hfew : ((backTo cpos (starEach [c] X.env)).all (fun x => !x.1) && (backToKw cpos (keywordEach [] X.env)).all (fun x => x.1.isSome)
      && decide ([c].length + ([] : List Keyword).length + (if ([] : List Keyword).isEmpty then 0 else 1) < 30)) = true := by rfl)
    (hline : (apos.endLine == cpos.line) = true := by rfl) (hs : starEach [c] X.env = (false, eval c X.env) :: starEach [] X.env := by rfl) (hplain : (backTo cpos (starEach [] X.env)).any (·.1) = false := by rfl) :
    DE b ca W X (.Call (.Attribute a "count" apos) [c] [] cpos) (eCnt fa fb) := by
  refine pe_imp (pe_bm PySem.F.plainAttrs_list PySem.F.slot_list_count PySem.F.type_list_count (mt_lcount hr.units) ha (pa_cons hb pa_nil hs) hbase hfew hline hs hplain) fun σ H Q ⟨Γ, e, r, k⟩ => ⟨Γ, e, r, k.bind.imp fun d H1 s1 k v rv => ?_⟩
  cases d with
  | lst ds =>
    unfold Rep at rv
    obtain ⟨p, vs, rfl, hp, _, t⟩ := rv
    refine ⟨.inl ⟨rfl, vs, SqL.of hp⟩, Γ, e, r.same s1, (show Out ca W σ H1 _ ((fb e).bind fun y => Rz.ofO (ctD ds y)) from k).bind.imp fun dy H2 s2 k2 y ry => ?_⟩
    obtain ⟨z, hz, k2⟩ := k2.ofO
    have hz : (if okd 63 dy = true ∧ okdL 63 ds = true then some (D.int ((ds.countP fun y => eqv y dy : Nat) : Int)) else none) = some z := hz
    by_cases ok : okd 63 dy = true ∧ okdL 63 ds = true
    · rw [if_pos ok] at hz
      cases hz
      exact ⟨p, vs, y, dy, ds, rfl, rfl, SqL.of (s2 _ _ hp), (t.same s2).dp ok.2, ry.dp ok.1, ok.2, ok.1, k2 _ (Same.refl _) _ .int⟩
    · rw [if_neg ok] at hz; cases hz
  | _ => exact k.elim
end
@[simp] theorem ev_Cnt (f g : En → Rz D) (e : En) : eCnt f g e = (f e).bind fun x => ctL x (g e) := (rfl)
@[simp] theorem ev_ctL (ds : List D) (f : Rz D) : ctL (.lst ds) f = f.bind fun y => Rz.ofO (ctD ds y) := (rfl)
end G
set_option Elab.async false
set_option linter.all false
set_option maxRecDepth 100000
set_option maxHeartbeats 4000000
namespace G
open PySem PySem.Spec PyProof.Rows L2
section
variable {X : Cx} {ca : Nat → Addr} {W : WX} {b : Bool} {a c : Expr} {fa fb : En → Rz D} {pos : Pos} {Φ : Fm}
/-! ### sum, max, min of a list of ints -/
theorem repL_ints {K : PySem.W.Frag} {Γ : Gm} {H : Hp} : ∀ {ns : List Int} {vs : List V}, RepL K Γ H (ns.map D.int) vs → vs = ns.map V.int
  | [], vs, t => by unfold RepL at t; exact t
  | n :: ns, vs, t => by
    rw [List.map_cons] at t
    unfold RepL at t
    obtain ⟨v, r, rfl, rv, rl⟩ := t
    rw [rep_int rv, repL_ints rl]
    rfl
def sumLD : List D → Option D
  | [.lst ds] => (inL ds).map fun ns => .int ns.sum
  | _ => none
def maxLD : List D → Option D
  | [.lst ds] => (inL ds).bind fun ns => match ns with | [] => none | n :: ns => some (.int (ns.foldl max n))
  | _ => none
def minLD : List D → Option D
  | [.lst ds] => (inL ds).bind fun ns => match ns with | [] => none | n :: ns => some (.int (ns.foldl min n))
  | _ => none
theorem fmax_facts : ∀ (ns : List Int) (n : Int), (ns.foldl max n ∈ n :: ns) ∧ ∀ x ∈ n :: ns, x ≤ ns.foldl max n
  | [], n => ⟨List.mem_cons_self, fun x h => by simp at h; rw [h]; exact Int.le_refl _⟩
  | a :: ns, n => by
    obtain ⟨h1, h2⟩ := fmax_facts ns (max n a)
    rw [List.foldl_cons]
    refine ⟨?_, fun x hx => ?_⟩
    · rcases List.mem_cons.mp h1 with h | h
      · rw [h]
        by_cases q : n ≤ a
        · rw [show max n a = a by omega]; exact List.mem_cons_of_mem _ List.mem_cons_self
        · rw [show max n a = n by omega]; exact List.mem_cons_self
      · exact List.mem_cons_of_mem _ (List.mem_cons_of_mem _ h)
    · have h3 := h2 (max n a) List.mem_cons_self
      rcases List.mem_cons.mp hx with rfl | hx
      · omega
      · rcases List.mem_cons.mp hx with rfl | hx
        · omega
        · exact h2 x (List.mem_cons_of_mem _ hx)
theorem fmin_facts : ∀ (ns : List Int) (n : Int), (ns.foldl min n ∈ n :: ns) ∧ ∀ x ∈ n :: ns, ns.foldl min n ≤ x
  | [], n => ⟨List.mem_cons_self, fun x h => by simp at h; rw [h]; exact Int.le_refl _⟩
  | a :: ns, n => by
    obtain ⟨h1, h2⟩ := fmin_facts ns (min n a)
    rw [List.foldl_cons]
    refine ⟨?_, fun x hx => ?_⟩
    · rcases List.mem_cons.mp h1 with h | h
      · rw [h]
        by_cases q : n ≤ a
        · rw [show min n a = n by omega]; exact List.mem_cons_self
        · rw [show min n a = a by omega]; exact List.mem_cons_of_mem _ List.mem_cons_self
      · exact List.mem_cons_of_mem _ (List.mem_cons_of_mem _ h)
    · have h3 := h2 (min n a) List.mem_cons_self
      rcases List.mem_cons.mp hx with rfl | hx
      · omega
      · rcases List.mem_cons.mp hx with rfl | hx
        · omega
        · exact h2 x (List.mem_cons_of_mem _ hx)
theorem fnv_sumL {K : PySem.W.Frag} : FnV K (rSum K) sumLD := by
  intro Γ H xs ds d Q al r hd k
  unfold sumLD at hd
  split at hd
  · rename_i l
    obtain ⟨v, rfl, rv⟩ := repL1 r
    cases q : inL l with
    | none => rw [q] at hd; cases hd
    | some ns =>
      rw [q] at hd
      cases hd
      unfold Rep at rv
      obtain ⟨p, vs, rfl, hp, _, t⟩ := rv
      rw [inL_eq q] at t
      have := repL_ints t
      subst this
      exact ⟨p, ns, rfl, SqL.of hp, k _ _ (Same.refl _) .int⟩
  · cases hd
theorem fnv_maxL {K : PySem.W.Frag} : FnV K (rMax K) maxLD := by
  intro Γ H xs ds d Q al r hd k
  unfold maxLD at hd
  split at hd
  · rename_i l
    obtain ⟨v, rfl, rv⟩ := repL1 r
    cases q : inL l with
    | none => rw [q] at hd; cases hd
    | some ns =>
      rw [q] at hd
      cases ns with
      | nil => cases hd
      | cons n ns =>
        cases hd
        unfold Rep at rv
        obtain ⟨p, vs, rfl, hp, _, t⟩ := rv
        rw [inL_eq q] at t
        have := repL_ints t
        subst this
        refine ⟨p, n :: ns, rfl, SqL.of hp, by simp, fun m hm hle => ?_⟩
        have f := fmax_facts ns n
        have e : m = ns.foldl max n := Int.le_antisymm (f.2 m hm) (hle _ f.1)
        rw [e]
        exact k _ _ (Same.refl _) .int
  · cases hd
theorem fnv_minL {K : PySem.W.Frag} : FnV K (rMin K) minLD := by
  intro Γ H xs ds d Q al r hd k
  unfold minLD at hd
  split at hd
  · rename_i l
    obtain ⟨v, rfl, rv⟩ := repL1 r
    cases q : inL l with
    | none => rw [q] at hd; cases hd
    | some ns =>
      rw [q] at hd
      cases ns with
      | nil => cases hd
      | cons n ns =>
        cases hd
        unfold Rep at rv
        obtain ⟨p, vs, rfl, hp, _, t⟩ := rv
        rw [inL_eq q] at t
        have := repL_ints t
        subst this
        refine ⟨p, n :: ns, rfl, SqL.of hp, by simp, fun m hm hle => ?_⟩
        have f := fmin_facts ns n
        have e : m = ns.foldl min n := Int.le_antisymm (hle _ f.1) (f.2 m hm)
        rw [e]
        exact k _ _ (Same.refl _) .int
  · cases hd
theorem de_sumL {p : Pos} (hc : X.calm = true) (hm : X.mg "sum" = none) (ha : DE b ca W X a fa) (hg : Gl X "sum" := by rfl) (he : starEach [a] X.env = (false, eval a X.env) :: starEach [] X.env := by rfl) (hpl : (backTo pos (starEach [] X.env)).any (·.1) = false := by rfl) : DE b ca W X (.Call (.Name "sum" p) [a] [] pos) (eFn sumLD [fa]) :=
  de_bltn (cr_sum hc) fnv_sumL hm (by decide +kernel) (da_cons ha da_nil he) hg (by decide) (by decide) he hpl
theorem de_maxL {p : Pos} (hc : X.calm = true) (hm : X.mg "max" = none) (ha : DE b ca W X a fa) (hg : Gl X "max" := by rfl) (he : starEach [a] X.env = (false, eval a X.env) :: starEach [] X.env := by rfl) (hpl : (backTo pos (starEach [] X.env)).any (·.1) = false := by rfl) : DE b ca W X (.Call (.Name "max" p) [a] [] pos) (eFn maxLD [fa]) :=
  de_bltn (cr_max hc) fnv_maxL hm (by decide +kernel) (da_cons ha da_nil he) hg (by decide) (by decide) he hpl
theorem de_minL {p : Pos} (hc : X.calm = true) (hm : X.mg "min" = none) (ha : DE b ca W X a fa) (hg : Gl X "min" := by rfl) (he : starEach [a] X.env = (false, eval a X.env) :: starEach [] X.env := by rfl) (hpl : (backTo pos (starEach [] X.env)).any (·.1) = false := by rfl) : DE b ca W X (.Call (.Name "min" p) [a] [] pos) (eFn minLD [fa]) :=
  de_bltn (cr_min hc) fnv_minL hm (by decide +kernel) (da_cons ha da_nil he) hg (by decide) (by decide) he hpl
end
end G
set_option Elab.async false
set_option linter.all false
set_option maxRecDepth 100000
set_option maxHeartbeats 4000000
namespace G
open PySem PySem.Spec PyProof.Rows L2 HT

/-! ### t[::-1] -/
section
variable {prog : Program} {w : World} {A : Around} {E : Value → Shared → Prop} {s : Shared}
theorem adjust_rev (n : Nat) : Builtin.Slice.sliceAdjust none none (-1) (n : Int) = ((n : Int) - 1, -1) := by
  unfold Builtin.Slice.sliceAdjust
  rfl
theorem places_rev (n : Nat) : Builtin.Slice.slicePlaces ((n : Int) - 1) (-1) (-1) = n := by
  unfold Builtin.Slice.slicePlaces
  have h1 : ¬ ((-1 : Int) > 0) := by decide
  simp only [h1, if_false]
  split
  · have : ((n : Int) - 1 - -1 - 1) / - -1 = (n : Int) - 1 := by
      rw [show (- -1 : Int) = 1 by decide, Int.ediv_one]; omega
    first
      | (rw [this]; omega)
      | (simp; omega)
      | omega
  · omega
theorem sliceApplied_rev {sl : Addr} {n : Nat} {t : Tok} {Q : Int × Int × Nat → Shared → Prop} (hs : s.heap.IsSliceOf sl .none .none (.int (-1) t)) (h : Q ((n : Int) - 1, -1, n) s) : wpAny (model prog w) A (Builtin.Slice.sliceApplied (.ref sl) (pure (n : Int))) Q E s := by
  obtain ⟨os, hos, hcs, hds⟩ := id hs
  unfold Builtin.Slice.sliceApplied Builtin.Slice.sliceFields
  refine wpAny_bind (wpAny_bind (wpAny_field hos hds (x := .none) rfl (wpAny_bind (wpAny_field hos hds (x := .none) rfl (wpAny_bind (wpAny_field hos hds (x := .int (-1) t) rfl (wpAny_pure ?_)))))))
  refine wpAny_bind (slicePart_int ?_)
  show wpAny _ _ (if ((-1 : Int) == 0) = true then _ else _) _ _ s
  rw [if_neg (by decide)]
  refine wpAny_bind (slicePart_none (wpAny_bind (slicePart_none (wpAny_bind (wpAny_pure ?_)))))
  show wpAny _ _ (match Builtin.Slice.sliceAdjust none none (-1) (n : Int) with | (lo, hi) => pure (lo, (-1 : Int), Builtin.Slice.slicePlaces lo hi (-1))) _ _ s
  rw [adjust_rev n]
  show wpAny _ _ (pure ((n : Int) - 1, (-1 : Int), Builtin.Slice.slicePlaces ((n : Int) - 1) (-1) (-1))) _ _ s
  rw [places_rev]
  exact wpAny_pure h
theorem filterMap_cg {α β : Type} {f g : α → Option β} : ∀ {l : List α}, (∀ m ∈ l, f m = g m) → l.filterMap f = l.filterMap g
  | [], _ => rfl
  | x :: l, h => by
    rw [List.filterMap_cons, List.filterMap_cons, h x List.mem_cons_self, filterMap_cg fun m hm => h m (List.mem_cons_of_mem _ hm)]
theorem pick_rev (xs : Array Value) : ((List.range xs.size).filterMap fun (m : Nat) => xs[(((xs.size : Int) - 1) + (m : Int) * (-1)).toNat]?).toArray = xs.toList.reverse.toArray := by
  have e : ((List.range xs.size).filterMap fun (m : Nat) => xs[(((xs.size : Int) - 1) + (m : Int) * (-1)).toNat]?) = (((List.range xs.size).map (fun k => xs.size - 1 - k)).filterMap (xs[·]?)) := by
    rw [List.filterMap_map]
    refine filterMap_cg fun m hm => ?_
    have := List.mem_range.mp hm
    show _ = xs[xs.size - 1 - m]?
    have : (((xs.size : Int) - 1) + (m : Int) * (-1)).toNat = xs.size - 1 - m := by omega
    rw [this]
  rw [e, PySem.W.krv_range, List.filterMap_reverse, PySem.W.krv_all]
theorem getItem_tuple_rev {t sl : Addr} {items : Array Value} {tk : Tok} {Q : Value → Shared → Prop} (ht : IsTup s.heap t items) (hs : s.heap.IsSliceOf sl .none .none (.int (-1) tk))
    (h : Q (.ref s.heap.objs.size) { s with heap := s.heap.push { cls := .type "tuple", data := .seq items.toList.reverse.toArray } })
    (hsz : items.size ≤ sizeLine) : wpAny (model prog w) A (getItem (.ref t) (.ref sl)) Q E s := by
  have htake : sizeOk (.seq items.toList.reverse.toArray) := by
    show items.toList.reverse.toArray.size ≤ sizeLine
    rw [List.size_toArray, List.length_reverse, Array.length_toList]
    exact hsz
  obtain ⟨os, hos, hcs, hds⟩ := id hs
  have hTs : s.TypeIs (.ref sl) "slice" := ⟨os, hos, hcs⟩
  unfold getItem
  try with_reducible refine wpAny_holding ?_
  first | refine wpAny_bind (wpAny_pure ?_) | skip
  refine wpAny_bind (wpAny_sequenceKey ht.typeIs (by decide) ?_)
  refine wpAny_bind (wpAny_callSpecial?_slot (name := Str.ofString "__getitem__") ht.typeIs PyProof.Rows.slot_tuple_getitem
    (wpAny_call_entry PyProof.Rows.slot_tuple_getitem ht.typeIs entry_tuple_getitem ?_ (args_tuple_getitem _ _)))
  show wpAny _ _ (Builtin.Tuple.tupleItemsOf (.ref t) >>= _) _ _ s
  refine wpAny_bind (tupleItemsOf_ ht ?_)
  refine wpAny_bind (wpAny_typeOf hTs ?_)
  rw [if_pos (by decide)]
  refine wpAny_bind (sliceApplied_rev hs ?_)
  have hno : ¬ (((items.size : Int) - 1 == 0 && (-1 : Int) == 1 && items.size == items.size) = true) := by simp
  show wpAny _ _ (if ((items.size : Int) - 1 == 0 && (-1 : Int) == 1 && items.size == items.size) = true then _ else _) _ _ s
  rw [if_neg hno, pick_rev]
  first
    | exact wpAny_bind (m := Builtin.Tuple.tupleExact _) (wpAny_newObj_type (wpAny_pure ⟨_, rfl, wpAny_pure h⟩) htake)
    | exact wpAny_bind (m := Builtin.Tuple.tupleExact _) (wpAny_newObj_type (wpAny_bind (wpAny_pure (wpAny_pure ⟨_, rfl, wpAny_pure h⟩))) htake)
    | exact wpAny_bind (wpAny_bind (m := Builtin.Tuple.tupleExact _) (wpAny_newObj_type (wpAny_pure (wpAny_pure ⟨_, rfl, wpAny_pure h⟩)) htake))
    | exact wpAny_bind (wpAny_bind (m := Builtin.Tuple.tupleExact _) (wpAny_newObj_type (wpAny_pure ⟨_, rfl, wpAny_pure h⟩) htake))
end
section
variable {X : Cx} {ca : Nat → Addr} {W : WX} {b : Bool} {a c : Expr} {fa fb : En → Rz D} {pos : Pos}
def tRevT (K : PySem.W.Frag) (te : TE) : TE := fun σ H Q => te σ H fun x H1 => ∃ a xs, x = .ref a ∧ SqT K H1 a xs ∧ ∀ p, H1 p = none → Q (.ref p) (upd H1 p (.tup xs.reverse))
theorem pe_revT {e : Expr} {te : TE} {k : Nat} {p1 p2 p3 pos : Pos} (he : PE X e te) : PE X (.Subscript e (.Slice none none (some (.UnaryOp .USub (.Constant (.int 1) k p1) p2)) p3) pos) (tRevT X.K te) := by
  refine ⟨fun pins s σ H Q I h => ?_⟩
  refine Subscript_ (thn (he.run pins s σ H _ I h) fun v s1 ⟨x, H1, I1, r1, q1⟩ => ?_)
  obtain ⟨a, xs, ex, hx, q⟩ := q1
  subst ex
  cases r1
  have hst : PO X (some (.UnaryOp .USub (.Constant (.int 1) k p1) p2)) (tPart (tUn (rU fun i => .int (-i)) (tC (.int 1)))) := po_some (pe_un un_neg pe_int)
  refine wpAny_Slice (thn (po_none.run pins s1 σ H1 (fun o H2 => o = none ∧ H2 = H1) I1 ⟨rfl, rfl⟩) fun vl s2 ⟨l, H2, I2, pl, el, e2⟩ => ?_)
  subst el e2
  refine thn (po_none.run pins s2 σ H2 (fun o H3 => o = none ∧ H3 = H2) I2 ⟨rfl, rfl⟩) fun vu s3 ⟨u, H3, I3, pu, eu, e3⟩ => ?_
  subst eu e3
  refine thn (hst.run pins s3 σ H3 (fun o H4 => o = some (-1) ∧ H4 = H3) I3 ⟨1, rfl, -1, rfl, rfl, rfl⟩) fun vs s4 ⟨o, H4, I4, ps, eo, e4⟩ => ?_
  subst eo e4
  cases pl
  cases pu
  cases ps with
  | int _ tk =>
  have I5 : L2.Inv X pins σ H4 { s4 with heap := s4.heap.push { cls := .type "slice", data := .fields #[.none, .none, .int (-1) tk] } } := I4.kept (t' := s4.toks) fun b ob q => Heap.get?_push_of_some _ q
  obtain ⟨its, r, ht, hz⟩ := I5.tuple hx
  have hlen := r.length
  show wpAny (model X.prog X.w) X.A (subscriptTail e (.Slice none none (some (.UnaryOp .USub (.Constant (.int 1) k p1) p2)) p3) (.ref a) (.ref s4.heap.objs.size)) (EP X pins σ Q) X.xe { s4 with heap := s4.heap.push { cls := .type "slice", data := .fields #[.none, .none, .int (-1) tk] } }
  refine tail_any (ops := [.ref a, .ref s4.heap.objs.size]) ht.typeIs (PyProof.Rows.slot_tuple_getitem.lookup) ?_ (by with_unfolding_all rfl)
  refine getItem_tuple_rev ht (Heap.IsSliceOf.new _ .none .none (.int (-1) tk)) ?_ (by rw [List.size_toArray]; omega)
  refine ⟨.ref _, _, I5.laid (t' := s4.toks) (o := .tup xs.reverse) (fun b ob q => Heap.get?_push_of_some _ q) (Nat.le_refl _) ?_, rfl, q _ (I5.hok.fresh (Nat.le_refl _))⟩
  exact ⟨by rw [List.length_reverse]; exact hz, _, r.reverse, IsTup.new _ _⟩
def revD : D → Rz D
  | .tup ds => .ok (.tup ds.reverse)
  | _ => .bad
def eRev (f : En → Rz D) : En → Rz D := fun e => (f e).bind revD
theorem de_rev {k : Nat} {p1 p2 p3 : Pos} (ha : DE b ca W X a fa) : DE b ca W X (.Subscript a (.Slice none none (some (.UnaryOp .USub (.Constant (.int 1) k p1) p2)) p3) pos) (eRev fa) := by
  refine pe_imp (pe_revT ha) fun σ H Q ⟨Γ, e, r, h⟩ => ⟨Γ, e, r, h.bind.imp fun d H1 s k v rv => ?_⟩
  cases d with
  | tup ds =>
    unfold Rep at rv
    obtain ⟨a, vs, rfl, q, t⟩ := rv
    refine ⟨a, vs, rfl, q, fun p hp => k _ (same_new hp) _ ?_⟩
    unfold Rep
    exact ⟨p, _, rfl, SqT.of upd_same, (t.reverse).same (same_new hp)⟩
  | _ => exact k.elim
theorem ev_Rev (f : En → Rz D) (e : En) : eRev f e = (f e).bind revD := (rfl)
theorem ev_revT (ds : List D) : revD (.tup ds) = .ok (.tup ds.reverse) := (rfl)
theorem ev_trI (i : Int) : trD (.int i) = .ok (i != 0) := (rfl)
theorem ev_trT (ds : List D) : trD (.tup ds) = .ok (!ds.isEmpty) := (rfl)
theorem ev_trL (ds : List D) : trD (.lst ds) = .ok (!ds.isEmpty) := (rfl)
end
end G
set_option Elab.async false
set_option linter.all false
set_option maxRecDepth 100000
set_option maxHeartbeats 4000000
namespace G
open PySem PySem.Spec PyProof.Rows L2

/-! ### min(xs, default=None), max(xs, default=None) of a list of ints -/
section
variable {X : Cx} {ca : Nat → Addr} {W : WX} {b : Bool} {a c : Expr} {fa fb : En → Rz D} {pos : Pos}
def optV : List Int → (Int → Int → Int) → V
  | [], _ => .non
  | n :: ns, f => .int (ns.foldl f n)
def rMmD (K : PySem.W.Frag) (f : Int → Int → Int) : List V → List V → Hp → VK → Prop := fun vs zs H Q => ∃ (a : Addr) (ns : List Int), vs = [V.ref a] ∧ zs = [.non] ∧ SqL K H a (ns.map V.int) ∧ Q (optV ns f) H
theorem cr_minD (hc : X.calm = true) (hu : X.A.units + 64 < cLine) : CallRK X (.builtin "min") ["default"] (rMmD X.K min) := by
  intro pins s σ H xs zs us ws Q I r r2 h
  obtain ⟨a, ns, rfl, rfl, hs, q⟩ := h
  obtain ⟨its, rv, hl, _⟩ := I.list hs
  rw [Vals.ref1 r]
  obtain ⟨u, rfl, ru⟩ := Vals.one r2
  cases ru
  obtain ⟨as, ra⟩ := Dp.readsAll I _ _ its (dp_ints ns) rv
  have ra' : ReadsAll s.heap its.toArray.toList (ns.map PyData.int) as := ra
  refine PySem.W.min_list_default (I.ok.hd hc) hl.isList ra' ⟨fun x hx y hy => ?_, fun x hx => ?_⟩ ?_ (fun e h' tk hk => ?_) fun y ys i v h' tk bs e hv rd hk => ?_
  · obtain ⟨i, _, rfl⟩ := List.mem_map.mp hx
    obtain ⟨j, _, rfl⟩ := List.mem_map.mp hy
    simp [PySem.W.alike]
  · obtain ⟨i, _, rfl⟩ := List.mem_map.mp hx
    exact fun z => nomatch z
  · rw [depth_ints ns]
    omega
  · have : ns = [] := List.map_eq_nil_iff.mp e
    subst this
    exact ⟨.non, H, I.kept hk, rfl, q⟩
  · cases ns with
    | nil => cases e
    | cons n ns =>
      rw [List.map_cons] at e
      injection e with e1 e2
      subst e1 e2
      rw [PySem.W.minD_ints] at rd
      cases rd
      exact ⟨.int _, H, I.kept hk, ⟨_, rfl⟩, q⟩
theorem cr_maxD (hc : X.calm = true) (hu : X.A.units + 64 < cLine) : CallRK X (.builtin "max") ["default"] (rMmD X.K max) := by
  intro pins s σ H xs zs us ws Q I r r2 h
  obtain ⟨a, ns, rfl, rfl, hs, q⟩ := h
  obtain ⟨its, rv, hl, _⟩ := I.list hs
  rw [Vals.ref1 r]
  obtain ⟨u, rfl, ru⟩ := Vals.one r2
  cases ru
  obtain ⟨as, ra⟩ := Dp.readsAll I _ _ its (dp_ints ns) rv
  have ra' : ReadsAll s.heap its.toArray.toList (ns.map PyData.int) as := ra
  refine PySem.W.max_list_default (I.ok.hd hc) hl.isList ra' ⟨fun x hx y hy => ?_, fun x hx => ?_⟩ ?_ (fun e h' tk hk => ?_) fun y ys i v h' tk bs e hv rd hk => ?_
  · obtain ⟨i, _, rfl⟩ := List.mem_map.mp hx
    obtain ⟨j, _, rfl⟩ := List.mem_map.mp hy
    simp [PySem.W.alike]
  · obtain ⟨i, _, rfl⟩ := List.mem_map.mp hx
    exact fun z => nomatch z
  · rw [depth_ints ns]
    omega
  · have : ns = [] := List.map_eq_nil_iff.mp e
    subst this
    exact ⟨.non, H, I.kept hk, rfl, q⟩
  · cases ns with
    | nil => cases e
    | cons n ns =>
      rw [List.map_cons] at e
      injection e with e1 e2
      subst e1 e2
      rw [PySem.W.maxD_ints] at rd
      cases rd
      exact ⟨.int _, H, I.kept hk, ⟨_, rfl⟩, q⟩
def optD : List Int → (Int → Int → Int) → D
  | [], _ => .non
  | n :: ns, f => .int (ns.foldl f n)
def mmD (f : Int → Int → Int) : D → Option D
  | .lst ds => (inL ds).map fun ns => optD ns f
  | _ => none
def eMmD (f : Int → Int → Int) (fa : En → Rz D) : En → Rz D := fun e => (fa e).bind fun d => Rz.ofO (mmD f d)
theorem rep_opt {K : PySem.W.Frag} {Γ : Gm} {H : Hp} (ns : List Int) (f : Int → Int → Int) : Rep K Γ H (optD ns f) (optV ns f) := by
  cases ns with
  | nil => exact .non
  | cons n ns => exact .int
theorem mm_tOf {f : Int → Int → Int} {K : PySem.W.Frag} {n : Nat} {σ : St} {H : Hp} {Q : VK} (h : tOf K n ca W b (eMmD f fa) σ H Q) : tCKw (rMmD K f) (tCons (tOf K n ca W b fa) tNil) (tCons (tC .non) tNil) σ H Q := by
  obtain ⟨Γ, e, r, h⟩ := h
  refine ⟨Γ, e, r, h.bind.imp fun d H1 s k v rv => ?_⟩
  obtain ⟨x, hx, k⟩ := k.ofO
  cases d with
  | lst ds =>
    have hx : (inL ds).map (fun ns => optD ns f) = some x := hx
    cases q : inL ds with
    | none => rw [q] at hx; cases hx
    | some ns =>
      rw [q] at hx
      cases hx
      unfold Rep at rv
      obtain ⟨a, vs, rfl, q2, _, t⟩ := rv
      rw [inL_eq q] at t
      have e2 := repL_ints t
      subst e2
      exact ⟨a, ns, rfl, rfl, SqL.of q2, k H1 (Same.refl _) _ (rep_opt ns f)⟩
  | _ => cases hx
theorem de_minD (hr : Rm X.A) {p kpos cpos : Pos} {j} (hc : X.calm = true) (hm : X.mg "min" = none) (ha : DE b ca W X a fa) (hg : Gl X "min" := by rfl) (he : starEach [a] X.env = (false, eval a X.env) :: starEach [] X.env := by rfl)
    (he' : backTo pos (starEach [a] X.env) = (false, eval a X.env) :: backTo pos (starEach [] X.env) := by rfl) (hpl : (backTo pos (starEach [a] X.env)).any (·.1) = false := by rfl)
    (hall : (backToKw pos (keywordEach [⟨some "default", .Constant .none j cpos, kpos⟩] X.env)).all (·.1.isSome) = true := by rfl) (hnone : (backToKw pos (keywordEach [⟨some "default", .Constant .none j cpos, kpos⟩] X.env)).any (·.1.isNone) = false := by rfl) (hks : (backToKw pos (keywordEach [⟨some "default", .Constant .none j cpos, kpos⟩] X.env)).filterMap (·.1) = (["default"] : List Str) := by rfl) :
    DE b ca W X (.Call (.Name "min" p) [a] [⟨some "default", .Constant .none j cpos, kpos⟩] pos) (eMmD min fa) :=
  pe_imp (pe_callBK (cr_minD hc hr.units) hg hm (by decide +kernel) (pa_cons ha pa_nil he) (pk_cons pe_non pk_nil) (by decide) (by decide) he' hpl hall hnone hks) fun σ H Q h => mm_tOf h
theorem de_maxD (hr : Rm X.A) {p kpos cpos : Pos} {j} (hc : X.calm = true) (hm : X.mg "max" = none) (ha : DE b ca W X a fa) (hg : Gl X "max" := by rfl) (he : starEach [a] X.env = (false, eval a X.env) :: starEach [] X.env := by rfl)
    (he' : backTo pos (starEach [a] X.env) = (false, eval a X.env) :: backTo pos (starEach [] X.env) := by rfl) (hpl : (backTo pos (starEach [a] X.env)).any (·.1) = false := by rfl)
    (hall : (backToKw pos (keywordEach [⟨some "default", .Constant .none j cpos, kpos⟩] X.env)).all (·.1.isSome) = true := by rfl) (hnone : (backToKw pos (keywordEach [⟨some "default", .Constant .none j cpos, kpos⟩] X.env)).any (·.1.isNone) = false := by rfl) (hks : (backToKw pos (keywordEach [⟨some "default", .Constant .none j cpos, kpos⟩] X.env)).filterMap (·.1) = (["default"] : List Str) := by rfl) :
    DE b ca W X (.Call (.Name "max" p) [a] [⟨some "default", .Constant .none j cpos, kpos⟩] pos) (eMmD max fa) :=
  pe_imp (pe_callBK (cr_maxD hc hr.units) hg hm (by decide +kernel) (pa_cons ha pa_nil he) (pk_cons pe_non pk_nil) (by decide) (by decide) he' hpl hall hnone hks) fun σ H Q h => mm_tOf h
theorem ev_MmD (f : Int → Int → Int) (fa : En → Rz D) (e : En) : eMmD f fa e = (fa e).bind fun d => Rz.ofO (mmD f d) := (rfl)
theorem mmD_ok (f : Int → Int → Int) (ns : List Int) : mmD f (.lst (ns.map D.int)) = some (optD ns f) := by
  show (inL (ns.map D.int)).map _ = _
  rw [inL_map]; rfl
end
end G
set_option Elab.async false
set_option linter.all false
set_option maxRecDepth 100000
set_option maxHeartbeats 4000000
namespace G
open PySem PySem.Spec PyProof.Rows L2

section
variable {X : Cx} {ca : Nat → Addr} {W : WX} {b : Bool} {a c : Expr} {fa fb : En → Rz D} {pos : Pos} {Φ : Fm}
/-! ### a tuple without a dict -/
theorem NTup.sqt {K : PySem.W.Frag} {H : Hp} {p : Addr} {vs : List V} (h : NTup H p vs) : SqT K H p vs := by
  obtain ⟨o, h, _⟩ := h
  exact .inl (.inr ⟨o, h⟩)
theorem NTup.same {H H' : Hp} {p : Addr} {vs : List V} (s : Same H H') (h : NTup H p vs) : NTup H' p vs := by
  obtain ⟨o, h, q⟩ := h
  exact ⟨o, s _ _ h, q⟩
def wkD : D → D
  | .ntup ds => .tup ds
  | d => d
def eWk (f : En → Rz D) : En → Rz D := fun e => (f e).bind fun d => .ok (wkD d)
theorem rep_wk {K : PySem.W.Frag} {Γ : Gm} {H : Hp} {d : D} {v : V} (h : Rep K Γ H d v) : Rep K Γ H (wkD d) v := by
  cases d with
  | ntup ds =>
    unfold Rep at h
    obtain ⟨p, vs, rfl, q, t⟩ := h
    show Rep K Γ H (.tup ds) _
    unfold Rep
    exact ⟨p, vs, rfl, q.sqt, t⟩
  | _ => exact h
theorem de_wk (ha : DE b ca W X a fa) : DE b ca W X a (eWk fa) :=
  pe_imp ha fun σ H Q ⟨Γ, e, r, h⟩ => ⟨Γ, e, r, h.bind.imp fun d H1 s k v rv => k H1 (Same.refl _) v (rep_wk rv)⟩
theorem call_tuple_ofN : CallR X (.type "tuple") (fun xs H Q => ∃ p ys, xs = [.ref p] ∧ SqL X.K H p ys ∧ ∀ l o, H l = none → o.cls = .type "tuple" → o.dict = none → Q (.ref l) (upd H l (.frz o (.tup ys)))) := by
  intro pins s σ H xs us Q I r h
  obtain ⟨p, ys, rfl, hq, q⟩ := h
  obtain ⟨u, rfl, rx⟩ := vals1 r
  cases rx
  obtain ⟨its, r', pl, hz⟩ := I.list hq
  have hlen := r'.length
  refine call_tuple_list pl.isList (fun h' kp => ?_) (by simp only [List.size_toArray] <;> omega)
  have I1 : L2.Inv X pins σ H { s with heap := h' } := I.kept (t' := s.toks) kp
  have I2 : L2.Inv X pins σ (upd H h'.objs.size (.frz { cls := .type "tuple", data := .seq its.toArray } (.tup ys))) { s with heap := h'.push { cls := .type "tuple", data := .seq its.toArray } } :=
    I1.laid (t' := s.toks) (fun b o e => Heap.get?_push_of_some _ e) (Nat.le_refl _) (show ObjOk X.prog X.w _ _ _ (.frz { cls := .type "tuple", data := .seq its.toArray } (.tup ys)) from ⟨Heap.get?_push_size _ rfl, hz, its, r', IsTup.new _ _⟩)
  exact ⟨.ref h'.objs.size, _, I2, rfl, q _ _ (I1.hok.fresh (Nat.le_refl _)) rfl rfl⟩
def tupN : List D → Option D
  | [.lst ds] => some (.ntup ds)
  | _ => none
theorem fnv_tupN {K : PySem.W.Frag} : FnV K (fun xs H Q => ∃ p ys, xs = [.ref p] ∧ SqL K H p ys ∧ ∀ l o, H l = none → o.cls = .type "tuple" → o.dict = none → Q (.ref l) (upd H l (.frz o (.tup ys)))) tupN := by
  intro Γ H xs ds d Q al r hd k
  unfold tupN at hd
  split at hd
  · cases hd
    obtain ⟨v, rfl, rv⟩ := repL1 r
    unfold Rep at rv
    obtain ⟨p, vs, rfl, hp, _, t⟩ := rv
    refine ⟨p, vs, rfl, SqL.of hp, fun l o hl h1 h2 => k _ _ (same_new hl) ?_⟩
    unfold Rep
    exact ⟨l, vs, rfl, ⟨o, upd_same, h1, h2⟩, t.same (same_new hl)⟩
  · cases hd
theorem de_tupN {p : Pos} (hm : X.mg "tuple" = none) (ha : DE b ca W X a fa) (hg : Gl X "tuple" := by rfl) (he : starEach [a] X.env = (false, eval a X.env) :: starEach [] X.env := by rfl) (hpl : (backTo pos (starEach [] X.env)).any (·.1) = false := by rfl) : DE b ca W X (.Call (.Name "tuple" p) [a] [] pos) (eFn tupN [fa]) :=
  de_ty call_tuple_ofN fnv_tupN hm (by decide +kernel) (da_cons ha da_nil he) hg (by decide) (by decide) he hpl
def tyNt (x : V) (H : Hp) : Prop := ∃ p vs, x = .ref p ∧ NTup H p vs
theorem ty_ntup : TyOk X "tuple" tyNt := by
  intro pins σ H s x v I r ty
  obtain ⟨p, vs, rfl, o, h, hc, hd⟩ := ty
  cases r
  obtain ⟨hg, _⟩ := I.hok p _ h
  refine ⟨⟨o, hg, hc⟩, fun b e => ?_⟩
  cases e
  exact ⟨o, hg, hd⟩
/-! ### t.count(x), t.index(x) -/
def ctT (x : D) (f : Rz D) : Rz D := match x with
  | .ntup ds => f.bind fun y => Rz.ofO (ctD ds y)
  | _ => .bad
def eCntT (f g : En → Rz D) : En → Rz D := fun e => (f e).bind fun x => ctT x (g e)
theorem de_tcount (hr : Rm X.A) {apos cpos : Pos} (ha : DE b ca W X a fa) (hb : DE b ca W X c fb) (hbase : attributeBase a "count" X.env (eval a X.env) = eval a X.env := by rfl)
    (hfew : ((backTo cpos (starEach [c] X.env)).all (fun x => !x.1) && (backToKw cpos (keywordEach [] X.env)).all (fun x => x.1.isSome)
      && decide ([c].length + ([] : List Keyword).length + (if ([] : List Keyword).isEmpty then 0 else 1) < 30)) = true := by rfl)
    (hline : (apos.endLine == cpos.line) = true := by rfl) (hs : starEach [c] X.env = (false, eval c X.env) :: starEach [] X.env := by rfl) (hplain : (backTo cpos (starEach [] X.env)).any (·.1) = false := by rfl) :
    DE b ca W X (.Call (.Attribute a "count" apos) [c] [] cpos) (eCntT fa fb) := by
  refine pe_imp (pe_mG ty_ntup PySem.F.plainAttrs_tuple PySem.F.slot_tuple_count PySem.F.type_tuple_count (mt_tcount hr.units) ha (pa_cons hb pa_nil hs) hbase hfew hline hs hplain) fun σ H Q ⟨Γ, e, r, k⟩ => ⟨Γ, e, r, k.bind.imp fun d H1 s1 k v rv => ?_⟩
  cases d with
  | ntup ds =>
    unfold Rep at rv
    obtain ⟨p, vs, rfl, hp, t⟩ := rv
    refine ⟨⟨p, vs, rfl, hp⟩, Γ, e, r.same s1, (show Out ca W σ H1 _ ((fb e).bind fun y => Rz.ofO (ctD ds y)) from k).bind.imp fun dy H2 s2 k2 y ry => ?_⟩
    obtain ⟨z, hz, k2⟩ := k2.ofO
    have hz : (if okd 63 dy = true ∧ okdL 63 ds = true then some (D.int ((ds.countP fun y => eqv y dy : Nat) : Int)) else none) = some z := hz
    by_cases ok : okd 63 dy = true ∧ okdL 63 ds = true
    · rw [if_pos ok] at hz
      cases hz
      exact ⟨p, vs, y, dy, ds, rfl, rfl, (hp.same s2).sqt, (t.same s2).dp ok.2, ry.dp ok.1, ok.2, ok.1, k2 _ (Same.refl _) _ .int⟩
    · rw [if_neg ok] at hz; cases hz
  | _ => exact k.elim
/-- the first place of an equal one -/
def firstEq (d : D) : Nat → List D → Option Nat
  | _, [] => none
  | i, x :: ds => if eqv x d = true then some i else firstEq d (i + 1) ds
theorem firstEq_spec (d : D) : ∀ (ds : List D) (i j : Nat), firstEq d i ds = some j → ∃ k z, j = i + k ∧ ds[k]? = some z ∧ eqv z d = true ∧ ∀ m z', m < k → ds[m]? = some z' → eqv z' d = false
  | [], _, _, h => by cases h
  | x :: ds, i, j, h => by
    unfold firstEq at h
    split at h
    · rename_i q
      cases h
      exact ⟨0, x, rfl, rfl, q, fun m z' hm => by omega⟩
    · rename_i q
      obtain ⟨k, z, h1, h2, h3, h4⟩ := firstEq_spec d ds (i + 1) j h
      refine ⟨k + 1, z, by omega, by simpa using h2, h3, fun m z' hm hz => ?_⟩
      cases m with
      | zero => simp at hz; subst hz; simpa using q
      | succ m => exact h4 m z' (by omega) (by simpa using hz)
theorem pyL_get : ∀ (ds : List D) (m : Nat), (D.pyL ds)[m]? = (ds[m]?).map D.py
  | [], m => by simp [D.pyL]
  | d :: ds, 0 => by simp [D.pyL]
  | d :: ds, m + 1 => by simp [D.pyL, pyL_get ds m]
theorem okdL_get : ∀ {ds : List D} {k m : Nat} {d : D}, okdL k ds = true → ds[m]? = some d → okd k d = true
  | [], _, _, _, _, h => by simp at h
  | x :: ds, k, 0, d, o, h => by
    simp only [okdL, Bool.and_eq_true] at o
    simp at h; subst h; exact o.1
  | x :: ds, k, m + 1, d, o, h => by
    simp only [okdL, Bool.and_eq_true] at o
    exact okdL_get (m := m) o.2 (by simpa using h)
theorem okdL_shaped {ds : List D} (h : okdL 63 ds = true) : SeqAt.shaped (.list (D.pyL ds)) = true ∧ SeqAt.shaped (.tuple (D.pyL ds)) = true :=
  ⟨okd_shaped (d := .lst ds) (by simp only [okd]; exact h), okd_shaped (d := .tup ds) (by simp only [okd]; exact h)⟩
theorem okd_shaped63 {d : D} (h : okd 63 d = true) : SeqAt.shaped d.py = true := by
  obtain ⟨h1, h2⟩ := okd_can h
  have : d.py.depth ≤ 64 := by omega
  simp [SeqAt.shaped, h1, this]
def ixOf (ds : List D) (d : D) : Option D := if okd 63 d = true ∧ okdL 63 ds = true then (firstEq d 0 ds).map fun j => .int (j : Nat) else none
theorem py_first {ds : List D} {d : D} {j : Nat} (o1 : okd 63 d = true) (o2 : okdL 63 ds = true) (h : firstEq d 0 ds = some j) : ∃ z, (D.pyL ds)[j]? = some z ∧ PyData.eqv z d.py = true ∧ ∀ (m : Nat) (z' : PyData), m < j → (D.pyL ds)[m]? = some z' → PyData.eqv z' d.py = false := by
  obtain ⟨k, z, e, h2, h3, h4⟩ := firstEq_spec d ds 0 j h
  rw [Nat.zero_add] at e
  subst e
  refine ⟨z.py, by rw [pyL_get, h2]; rfl, by rw [eqv_py z d 63 63 (okdL_get o2 h2) o1]; exact h3, fun m z' hm hz => ?_⟩
  rw [pyL_get] at hz
  cases q : ds[m]? with
  | none => rw [q] at hz; cases hz
  | some y =>
    rw [q] at hz
    cases hz
    rw [eqv_py y d 63 63 (okdL_get o2 q) o1]
    exact h4 m y hm q
def rIxT2 (K : PySem.W.Frag) : V → List V → Hp → VK → Prop := fun x xs H Q => ∃ (p : Addr) (ys : List V) (y : V) (d : D) (ds : List D) (j : Nat), x = V.ref p ∧ xs = [y] ∧ SqT K H p ys ∧ DpAll K H ys (D.pyL ds) ∧ Dp K H y d.py ∧ okdL 63 ds = true ∧ okd 63 d = true ∧ firstEq d 0 ds = some j ∧ Q (.int (j : Nat)) H
theorem mt_tindex (hu : X.A.units + 64 < cLine) : MtR X "tuple.index" (rIxT2 X.K) := by
  intro pins s σ H x xs v us Q I rx rxs h
  obtain ⟨p, ys, y, d, ds, j, rfl, rfl, hs, h1, h2, h3, h4, hj0, q⟩ := h
  cases rx
  obtain ⟨u, rfl, ry⟩ := vals1 rxs
  obtain ⟨its, rv, ⟨⟨cls, dd, data, sls⟩, ho, hc, n, hdt⟩, hlen⟩ := I.tuple hs
  simp only at hc hdt
  subst hc hdt
  obtain ⟨as, ra⟩ := Dp.readsAll I _ _ its h1 rv
  obtain ⟨bs, rb⟩ := Dp.reads I _ y u h2 ry
  obtain ⟨z, hz, hzj, hno⟩ := py_first h4 h3 hj0
  have hxs : PyData.canLayAll0 (D.pyL ds) = true := SeqAt.canLay_of_shaped (okdL_shaped h3).1
  have hroom : X.A.units + 1 + min (PyData.depthAll (D.pyL ds)) d.py.depth < cLine := room_in h4 hu
  have hn : its.length = (D.pyL ds).length := SeqAt.ReadsAll.length _ its as ra
  have hmap : its.map (SeqAt.readOf s.heap) = D.pyL ds := SeqAt.readsAll_map _ its as hxs ra
  obtain ⟨hjd, _⟩ := List.getElem?_eq_some_iff.mp hz
  have hjl : j < its.length := by omega
  have hj : j < its.toArray.size := by simpa using hjl
  have at_ : ∀ (m : Nat) (hm : m < its.toArray.size) (z' : PyData), (D.pyL ds)[m]? = some z' → SeqAt.readOf s.heap its.toArray[m] = z' := by
    intro m hm z' hz'
    have hml : m < its.length := by simpa using hm
    rw [← hmap, List.getElem?_map, List.getElem?_eq_getElem hml] at hz'
    have e1 : SeqAt.readOf s.heap its[m] = z' := Option.some.inj (show some (SeqAt.readOf s.heap its[m]) = some z' from hz')
    simpa using e1
  refine call_meets PySem.F.slot_tuple_index ⟨_, ho, rfl⟩ PySem.F.entry_tuple_index (PySem.F.args_tuple_index_2 _ _)
    (TI.tuple_indexAt p its.toArray n dd sls u (fun u => PyData.eqv (SeqAt.readOf s.heap u) d.py) j hj ?_ ?_) ⟨ho, SeqAt.items_eqAt (vs := its.toArray) (show ReadsAll s.heap its.toArray.toList (D.pyL ds) as from ra) rb hxs (SeqAt.canLay_of_shaped (okd_shaped63 h4)) hroom, ?_⟩
  · show PyData.eqv (SeqAt.readOf s.heap its.toArray[j]) d.py = true
    rw [at_ j hj z hz]
    exact hzj
  · intro m hm hmj
    have hmd : m < (D.pyL ds).length := by omega
    have hz' : (D.pyL ds)[m]? = some (D.pyL ds)[m] := List.getElem?_eq_getElem hmd
    show PyData.eqv (SeqAt.readOf s.heap its.toArray[m]) d.py = false
    rw [at_ m hm _ hz']
    exact hno m _ hmj hz'
  · exact ⟨.int (j : Nat), H, I.tok _, ⟨_, rfl⟩, q⟩
def ixT (x : D) (f : Rz D) : Rz D := match x with
  | .ntup ds => f.bind fun y => Rz.ofO (ixOf ds y)
  | _ => .bad
def eIxT (f g : En → Rz D) : En → Rz D := fun e => (f e).bind fun x => ixT x (g e)
theorem de_tindex (hr : Rm X.A) {apos cpos : Pos} (ha : DE b ca W X a fa) (hb : DE b ca W X c fb) (hbase : attributeBase a "index" X.env (eval a X.env) = eval a X.env := by rfl)
    (hfew : ((backTo cpos (starEach [c] X.env)).all (fun x => !x.1) && (backToKw cpos (keywordEach [] X.env)).all (fun x => x.1.isSome)
      && decide ([c].length + ([] : List Keyword).length + (if ([] : List Keyword).isEmpty then 0 else 1) < 30)) = true := by rfl)
    (hline : (apos.endLine == cpos.line) = true := by rfl) (hs : starEach [c] X.env = (false, eval c X.env) :: starEach [] X.env := by rfl) (hplain : (backTo cpos (starEach [] X.env)).any (·.1) = false := by rfl) :
    DE b ca W X (.Call (.Attribute a "index" apos) [c] [] cpos) (eIxT fa fb) := by
  refine pe_imp (pe_mG ty_ntup PySem.F.plainAttrs_tuple PySem.F.slot_tuple_index PySem.F.type_tuple_index (mt_tindex hr.units) ha (pa_cons hb pa_nil hs) hbase hfew hline hs hplain) fun σ H Q ⟨Γ, e, r, k⟩ => ⟨Γ, e, r, k.bind.imp fun d H1 s1 k v rv => ?_⟩
  cases d with
  | ntup ds =>
    unfold Rep at rv
    obtain ⟨p, vs, rfl, hp, t⟩ := rv
    refine ⟨⟨p, vs, rfl, hp⟩, Γ, e, r.same s1, (show Out ca W σ H1 _ ((fb e).bind fun y => Rz.ofO (ixOf ds y)) from k).bind.imp fun dy H2 s2 k2 y ry => ?_⟩
    obtain ⟨z, hz, k2⟩ := k2.ofO
    have hz : (if okd 63 dy = true ∧ okdL 63 ds = true then (firstEq dy 0 ds).map (fun j => D.int (j : Nat)) else none) = some z := hz
    by_cases ok : okd 63 dy = true ∧ okdL 63 ds = true
    · rw [if_pos ok] at hz
      cases q : firstEq dy 0 ds with
      | none => rw [q] at hz; cases hz
      | some j =>
        rw [q] at hz
        cases hz
        exact ⟨p, vs, y, dy, ds, j, rfl, rfl, (hp.same s2).sqt, (t.same s2).dp ok.2, ry.dp ok.1, ok.2, ok.1, q, k2 _ (Same.refl _) _ .int⟩
    · rw [if_neg ok] at hz; cases hz
  | _ => exact k.elim
/-! ### l.index(x) -/
def ixL (x : D) (f : Rz D) : Rz D := match x with
  | .lst ds => f.bind fun y => Rz.ofO (ixOf ds y)
  | _ => .bad
def eIxL (f g : En → Rz D) : En → Rz D := fun e => (f e).bind fun x => ixL x (g e)
theorem de_lindex (hr : Rm X.A) {apos cpos : Pos} (ha : DE b ca W X a fa) (hb : DE b ca W X c fb) (hbase : attributeBase a "index" X.env (eval a X.env) = eval a X.env := by rfl)
    (hfew : ((backTo cpos (starEach [c] X.env)).all (fun x => !x.1) && (backToKw cpos (keywordEach [] X.env)).all (fun x => x.1.isSome)
      && decide ([c].length + ([] : List Keyword).length + (if ([] : List Keyword).isEmpty then 0 else 1) < 30)) = true := by rfl)
    (hline : (apos.endLine == cpos.line) = true := by rfl) (hs : starEach [c] X.env = (false, eval c X.env) :: starEach [] X.env := by rfl) (hplain : (backTo cpos (starEach [] X.env)).any (·.1) = false := by rfl) :
    DE b ca W X (.Call (.Attribute a "index" apos) [c] [] cpos) (eIxL fa fb) := by
  have hu : X.A.units + 65 < cLine := by have := hr.un; omega
  refine pe_imp (pe_bm PySem.F.plainAttrs_list PySem.F.slot_list_index PySem.F.type_list_index (mt_indexD hu) ha (pa_cons hb pa_nil hs) hbase hfew hline hs hplain) fun σ H Q ⟨Γ, e, r, k⟩ => ⟨Γ, e, r, k.bind.imp fun d H1 s1 k v rv => ?_⟩
  cases d with
  | lst ds =>
    unfold Rep at rv
    obtain ⟨p, vs, rfl, hp, _, t⟩ := rv
    refine ⟨.inl ⟨rfl, vs, SqL.of hp⟩, Γ, e, r.same s1, (show Out ca W σ H1 _ ((fb e).bind fun y => Rz.ofO (ixOf ds y)) from k).bind.imp fun dy H2 s2 k2 y ry => ?_⟩
    obtain ⟨z, hz, k2⟩ := k2.ofO
    have hz : (if okd 63 dy = true ∧ okdL 63 ds = true then (firstEq dy 0 ds).map (fun j => D.int (j : Nat)) else none) = some z := hz
    by_cases ok : okd 63 dy = true ∧ okdL 63 ds = true
    · rw [if_pos ok] at hz
      cases q : firstEq dy 0 ds with
      | none => rw [q] at hz; cases hz
      | some j =>
        rw [q] at hz
        cases hz
        obtain ⟨zz, g1, g2, g3⟩ := py_first ok.1 ok.2 q
        exact ⟨p, y, dy.py, D.pyL ds, j, zz, rfl, rfl, .lst (SqL.of (s2 _ _ hp)) ((t.same s2).dp ok.2), ry.dp ok.1, (okdL_shaped ok.2).1, okd_shaped63 ok.1, g1, g2, g3, k2 _ (Same.refl _) _ .int⟩
    · rw [if_neg ok] at hz; cases hz
  | _ => exact k.elim
/-! ### sum of a tuple of ints -/
def rSumT (K : PySem.W.Frag) : List V → Hp → VK → Prop := fun vs H Q => ∃ (a : Addr) (ns : List Int), vs = [V.ref a] ∧ SqT K H a (ns.map V.int) ∧ Q (.int ns.sum) H
theorem preSum_take (ns : List Int) : ∀ j, j ≤ ns.length → preSum (fun i => ns.getD i 0) j = (ns.take j).sum
  | 0, _ => by simp [preSum]
  | j + 1, h => by
    rw [preSum, preSum_take ns j (by omega), List.take_succ, List.getElem?_eq_getElem (by omega : j < ns.length)]
    have : ns.getD j 0 = ns[j] := by rw [List.getD_eq_getElem?_getD, List.getElem?_eq_getElem (by omega : j < ns.length)]; rfl
    rw [this]
    simp only [Option.toList_some, List.sum_append, List.sum_cons, List.sum_nil, Int.add_zero]
theorem cr_sumT (hc : X.calm = true) : CallR X (.builtin "sum") (rSumT X.K) := by
  intro pins s σ H vs us Q I r h
  obtain ⟨a, ns, rfl, hs, q⟩ := h
  obtain ⟨its, rv, ⟨o, ho, hcl, m, hd⟩, _⟩ := I.tuple hs
  rw [Vals.ref1 r]
  have hi := rv.ints
  have hlen : its.length = ns.length := hi.length
  refine call_sum_walkAnyS (PySem.W.iter_tupleW (A := X.A.in1) (I.ok.hd hc) ⟨o, ho, hcl, m, hd⟩ fun s₂ e W st hfp hw hk => ?_)
  refine ⟨_, _, _, _, _, _, _, (fun i => ns.getD i 0), rfl, W, st, hfp, fun i v hv => ?_, fun s' t' mv => ?_⟩
  · have hv : its[i]? = some v := by simpa using hv
    have hil : i < ns.length := by
      rw [← hlen]
      exact (List.getElem?_eq_some_iff.mp hv).1
    obtain ⟨w, hw1, hw2⟩ := rv.get (i := i) (x := .int ns[i]) (by simp [hil])
    rw [hv] at hw1
    cases hw1
    obtain ⟨t, rfl⟩ := hw2
    exact ⟨t, by
      have : ns.getD i 0 = ns[i] := by rw [List.getD_eq_getElem?_getD, List.getElem?_eq_getElem hil]; rfl
      show Value.int ns[i] t = Value.int (ns.getD i 0) t
      rw [this]⟩
  · obtain ⟨h', tk, rfl, hk'⟩ := PySem.W.moved_old e rfl mv
    have e1 : its.toArray.size = ns.length := by simpa using hlen
    rw [e1, preSum_take ns _ (Nat.le_refl _), List.take_length]
    exact ⟨.int _, H, I.kept hk', ⟨_, rfl⟩, q⟩
def sumTD : List D → Option D
  | [.tup ds] => (inL ds).map fun ns => .int ns.sum
  | _ => none
theorem fnv_sumT {K : PySem.W.Frag} : FnV K (rSumT K) sumTD := by
  intro Γ H xs ds d Q al r hd k
  unfold sumTD at hd
  split at hd
  · rename_i l
    obtain ⟨v, rfl, rv⟩ := repL1 r
    cases q : inL l with
    | none => rw [q] at hd; cases hd
    | some ns =>
      rw [q] at hd
      cases hd
      unfold Rep at rv
      obtain ⟨p, vs, rfl, hp, t⟩ := rv
      rw [inL_eq q] at t
      have e2 := repL_ints t
      subst e2
      exact ⟨p, ns, rfl, hp, k _ _ (Same.refl _) .int⟩
  · cases hd
theorem de_sumT {p : Pos} (hc : X.calm = true) (hm : X.mg "sum" = none) (ha : DE b ca W X a fa) (hg : Gl X "sum" := by rfl) (he : starEach [a] X.env = (false, eval a X.env) :: starEach [] X.env := by rfl) (hpl : (backTo pos (starEach [] X.env)).any (·.1) = false := by rfl) : DE b ca W X (.Call (.Name "sum" p) [a] [] pos) (eFn sumTD [fa]) :=
  de_bltn (cr_sumT hc) fnv_sumT hm (by decide +kernel) (da_cons ha da_nil he) hg (by decide) (by decide) he hpl
/-! ### x[i] = v, x.extend(l): a slot's own list -/
def sSub (i : Nat) (g f : En → Rz D) : En → SR := fun e => match e.v i with
  | .own ds => onR (f e) e fun d => onR (g e) e fun x => match x with
    | .int j => onO (ixN ds.length j) fun m => .next (e.set i (.own (ds.set m d)))
    | _ => .bad
  | _ => .bad
theorem ds_sub {i : Nat} {x : Str} {pos p1 spos : Pos} {ix : Expr} {fi : En → Rz D} (ha : DE true ca W X a fa) (hi : DE true ca W X ix fi) (hN : X.N[i]? = some x := by rfl) (hv : Vis X.env.scope x := by first | exact Or.inl rfl | exact Or.inr (Or.inl rfl) | exact Or.inr (Or.inr rfl))
    (hd : (x == ("__debug__" : Str)) = false := by decide) (hcd : (x == ("__classdict__" : Str)) = false := by decide)
    (has : ∀ v, assign (.Subscript (.Name x p1) ix spos) X.env v = (do
      let ov ← holding [v] (eval (.Name x p1) X.env)
      let iv ← holding [v, ov] (eval ix X.env)
      standAt spos
      holding [v, ov, iv] (setItem ov iv v)
      release [v, ov, iv] []) := by intro _; rfl)
    (hs : swapsWithSole [.Subscript (.Name x p1) ix spos] a pos.line X.env = pure false := by rfl) (hw : swappedStores [.Subscript (.Name x p1) ix spos] a X.env = pure none := by rfl) (h1 : (assignEach [.Subscript (.Name x p1) ix spos] X.env).map (·.2) = [assign (.Subscript (.Name x p1) ix spos) X.env] := by rfl) :
    DS ca W Φ X (.Assign [.Subscript (.Name x p1) ix spos] a pos) (sSub i fi fa) := by
  refine ps_imp (ps_asg ha (pg_sub (pe_var hN hv hd hcd) hi set_list has) hs hw h1) fun E σ H ⟨Γ, e, r, k⟩ => ?_
  unfold sSub at k
  cases q : e.v i with
  | own ds =>
    rw [q] at k
    dsimp only at k
    refine ⟨Γ, e, r.r, r.out k fun d H1 s1 r1 k1 v rv => ?_⟩
    obtain ⟨p, vs, e1, e2, e3, rp⟩ := r1.r.getO q
    refine ⟨.ref p, e1, Γ, e, r1.r, r1.out k1 fun dx H2 s2 r2 k2 y ry => ?_⟩
    cases dx with
    | int j =>
      dsimp only at k2
      cases ry' : rep_int ry
      cases qm : ixN ds.length j with
      | none => rw [qm] at k2; exact k2.elim
      | some m =>
        rw [qm] at k2
        have rp2 := rp.same s2
        refine ⟨p, vs, j, m, rfl, rep_int ry, s2 _ _ e2, by rw [rp.length]; exact qm, ?_⟩
        have hne : Γ.own p ≠ none := by rw [e3]; exact fun z => nomatch z
        exact k2 Γ σ _ (r2.wrOwn (gt_len hN) e3 e1 (s2 _ _ e2) (rp2.set m (rv.same s2))) (.wr hne (s2 _ _ e2))
    | _ => exact k2.elim
  | un => rw [q] at k; exact k.elim
  | val d => rw [q] at k; exact k.elim
def sExt (i : Nat) (f : En → Rz D) : En → SR := fun e => match e.v i with
  | .own ds => onR (f e) e fun d => match d with
    | .lst xs => if ds.length + xs.length ≤ sizeLine then .next (e.set i (.own (ds ++ xs))) else .bad
    | _ => .bad
  | _ => .bad
theorem ds_ext {i : Nat} {x : Str} {pos p1 apos cpos : Pos} (ha : DE true ca W X a fa) (hN : X.N[i]? = some x := by rfl) (hv : Vis X.env.scope x := by first | exact Or.inl rfl | exact Or.inr (Or.inl rfl) | exact Or.inr (Or.inr rfl))
    (hd : (x == ("__debug__" : Str)) = false := by decide) (hcd : (x == ("__classdict__" : Str)) = false := by decide)
    (hbase : attributeBase (.Name x p1) "extend" X.env (eval (.Name x p1) X.env) = eval (.Name x p1) X.env := by rfl)
    (hfew : ((backTo cpos (starEach [a] X.env)).all (fun x => !x.1) && (backToKw cpos (keywordEach [] X.env)).all (fun x => x.1.isSome)
      && decide ([a].length + ([] : List Keyword).length + (if ([] : List Keyword).isEmpty then 0 else 1) < 30)) = true := by rfl)
    (hline : (apos.endLine == cpos.line) = true := by rfl) (hs : starEach [a] X.env = (false, eval a X.env) :: starEach [] X.env := by rfl) (hplain : (backTo cpos (starEach [] X.env)).any (·.1) = false := by rfl)
    (hsw : swapsWith (.Call (.Attribute (.Name x p1) "extend" apos) [a] [] cpos) none pos.line X.env = pure false := by rfl) : DS ca W Φ X (.Expr (.Call (.Attribute (.Name x p1) "extend" apos) [a] [] cpos) pos) (sExt i fa) := by
  refine ps_imp (ps_expr (pe_bm PySem.F.plainAttrs_list PySem.F.slot_list_extend PySem.F.type_list_extend mt_extend (pe_var hN hv hd hcd) (pa_cons ha pa_nil hs) hbase hfew hline hs hplain) hsw) fun E σ H ⟨Γ, e, r, k⟩ => ?_
  unfold sExt at k
  cases q : e.v i with
  | own ds =>
    rw [q] at k
    dsimp only at k
    obtain ⟨p, vs, e1, e2, e3, rp⟩ := r.r.getO q
    refine ⟨.ref p, e1, .inl ⟨rfl, vs, SqL.of e2⟩, ⟨Γ, e, r.r, r.out k fun d H' s r' k v rv => ?_⟩⟩
    have rp' := rp.same s
    cases d with
    | lst xs =>
      dsimp only at k
      unfold Rep at rv
      obtain ⟨p2, us, rfl, hp2, ho2, t2⟩ := rv
      by_cases hl : ds.length + xs.length ≤ sizeLine
      · rw [if_pos hl] at k
        refine ⟨p, p2, vs, us, rfl, rfl, s _ _ e2, hp2, by rw [rp.length, t2.length]; exact hl, ?_⟩
        have hne : Γ.own p ≠ none := by rw [e3]; exact fun z => nomatch z
        exact k Γ σ _ (r'.wrOwn (gt_len hN) e3 e1 (s _ _ e2) (rp'.append t2)) (.wr hne (s _ _ e2))
      · rw [if_neg hl] at k; exact k.elim
    | _ => exact k.elim
  | un => rw [q] at k; exact k.elim
  | val d => rw [q] at k; exact k.elim
end
theorem ev_Wk (f : En → Rz D) (e : En) : eWk f e = (f e).bind fun d => .ok (wkD d) := (rfl)
theorem ev_wkN (ds : List D) : wkD (.ntup ds) = .tup ds := (rfl)
theorem ev_tupN (ds : List D) : tupN [.lst ds] = some (.ntup ds) := (rfl)
theorem ev_CntT (f g : En → Rz D) (e : En) : eCntT f g e = (f e).bind fun x => ctT x (g e) := (rfl)
theorem ev_ctT (ds : List D) (f : Rz D) : ctT (.ntup ds) f = f.bind fun y => Rz.ofO (ctD ds y) := (rfl)
theorem ev_IxT (f g : En → Rz D) (e : En) : eIxT f g e = (f e).bind fun x => ixT x (g e) := (rfl)
theorem ev_ixT' (ds : List D) (f : Rz D) : ixT (.ntup ds) f = f.bind fun y => Rz.ofO (ixOf ds y) := (rfl)
theorem ev_IxL (f g : En → Rz D) (e : En) : eIxL f g e = (f e).bind fun x => ixL x (g e) := (rfl)
theorem ev_ixL' (ds : List D) (f : Rz D) : ixL (.lst ds) f = f.bind fun y => Rz.ofO (ixOf ds y) := (rfl)
theorem sumT_eq (l : List Int) : sumTD [.tup (l.map D.int)] = some (.int l.sum) := by
  show (inL (l.map D.int)).map _ = _
  rw [inL_map]; rfl
theorem ev_Sub (i : Nat) (g f : En → Rz D) (e : En) : sSub i g f e = match e.v i with
  | .own ds => onR (f e) e fun d => onR (g e) e fun x => match x with
    | .int j => onO (ixN ds.length j) fun m => .next (e.set i (.own (ds.set m d)))
    | _ => .bad
  | _ => .bad := (rfl)
theorem ev_Ext (i : Nat) (f : En → Rz D) (e : En) : sExt i f e = match e.v i with
  | .own ds => onR (f e) e fun d => match d with
    | .lst xs => if ds.length + xs.length ≤ sizeLine then .next (e.set i (.own (ds ++ xs))) else .bad
    | _ => .bad
  | _ => .bad := (rfl)
end G
set_option Elab.async false
set_option linter.all false
set_option maxRecDepth 100000
set_option maxHeartbeats 4000000
namespace G
open PySem PySem.Spec PyProof.Rows L2

/-! ### a marked dict is written: what avoids it stays -/
section
variable {K : PySem.W.Frag} {Γ : Gm} {H : Hp}
mutual
theorem Rep.wrD {p : Addr} {ws : List (Key × V)} {o' : HO} (hp : Γ.own p ≠ none) (hl : H p = some (.dK ws)) : ∀ {d : D} {v : V}, Rep K Γ H d v → Rep K Γ (upd H p o') d v
  | .non, _, h => by unfold Rep at h ⊢; exact h
  | .bl _, _, h => by unfold Rep at h ⊢; exact h
  | .int _, _, h => by unfold Rep at h ⊢; exact h
  | .str _, _, h => by unfold Rep at h ⊢; exact h
  | .tup _, _, h => by
    unfold Rep at h ⊢
    obtain ⟨a, vs, r, q, t⟩ := h
    refine ⟨a, vs, r, ?_, RepL.wrD hp hl t⟩
    rcases q with (q | ⟨o, q⟩) | q
    · exact .inl (.inl (by rw [upd_ne (ne_of q hl (fun z => HO.noConfusion z))]; exact q))
    · exact .inl (.inr ⟨o, by rw [upd_ne (ne_of q hl (fun z => HO.noConfusion z))]; exact q⟩)
    · exact .inr q
  | .lst _, _, h => by
    unfold Rep at h ⊢
    obtain ⟨a, vs, r, q, o, t⟩ := h
    refine ⟨a, vs, r, ?_, o, RepL.wrD hp hl t⟩
    have ne : a ≠ p := fun z => hp (z ▸ o)
    rw [upd_ne ne]; exact q
  | .scr _, _, h => by
    unfold Rep at h ⊢
    obtain ⟨a, r, q⟩ := h
    refine ⟨a, r, ?_⟩
    rcases q with ⟨q, o⟩ | q
    · refine .inl ⟨?_, o⟩
      have ne : a ≠ p := fun z => hp (z ▸ o)
      rcases q with q | ⟨ob, q⟩
      · exact .inl (by rw [upd_ne ne]; exact q)
      · exact .inr ⟨ob, by rw [upd_ne ne]; exact q⟩
    · exact .inr q
  | .obj _, _, h => by unfold Rep at h ⊢; exact h
  | .ntup _, _, h => by
    unfold Rep at h ⊢
    obtain ⟨a, vs, r, ⟨o, q1, q2⟩, t⟩ := h
    exact ⟨a, vs, r, ⟨o, by rw [upd_ne (ne_of q1 hl (fun z => HO.noConfusion z))]; exact q1, q2⟩, RepL.wrD hp hl t⟩
  | .adr _, _, h => by unfold Rep at h ⊢; exact h
  | .dic _ _, _, h => by
    unfold Rep at h ⊢
    obtain ⟨a, vs, r, q, o, l, t⟩ := h
    have ne : a ≠ p := fun z => hp (z ▸ o)
    exact ⟨a, vs, r, by rw [upd_ne ne]; exact q, o, l, RepL.wrD hp hl t⟩
theorem RepL.wrD {p : Addr} {ws : List (Key × V)} {o' : HO} (hp : Γ.own p ≠ none) (hl : H p = some (.dK ws)) : ∀ {ds : List D} {vs : List V}, RepL K Γ H ds vs → RepL K Γ (upd H p o') ds vs
  | [], _, h => by unfold RepL at h ⊢; exact h
  | _ :: _, _, h => by
    unfold RepL at h ⊢
    obtain ⟨v, r, q, h1, h2⟩ := h
    exact ⟨v, r, q, Rep.wrD hp hl h1, RepL.wrD hp hl h2⟩
end
end
/-! ### {"a": x, ..}, d["a"] -/
theorem dkv_cons (k : Str) (ks : List Str) (v : V) (vs : List V) : dkv (k :: ks) (v :: vs) = (Sum.inr k, v) :: dkv ks vs := rfl
def dlk : List Str → List D → Str → Option D
  | k :: ks, d :: ds, x => if k = x then some d else dlk ks ds x
  | _, _, _ => none
theorem dlk_val {K : PySem.W.Frag} {Γ : Gm} {H : Hp} {x : Str} {d : D} : ∀ {ks : List Str} {ds : List D} {vs : List V}, RepL K Γ H ds vs → dlk ks ds x = some d → ∃ v, valV (dkv ks vs) (Sum.inr x : Key) = some v ∧ Rep K Γ H d v
  | [], ds, vs, _, h => by cases ds <;> cases h
  | k :: ks, [], vs, _, h => by cases h
  | k :: ks, y :: ds, vs, t, h => by
    unfold RepL at t
    obtain ⟨v, r, rfl, rv, rl⟩ := t
    unfold dlk at h
    rw [dkv_cons]
    by_cases q : k = x
    · rw [if_pos q] at h
      cases h
      exact ⟨v, valV_pos (by rw [q]), rv⟩
    · rw [if_neg q] at h
      obtain ⟨u, h1, h2⟩ := dlk_val rl h
      exact ⟨u, by rw [valV_neg (fun z => q (Sum.inr.inj z))]; exact h1, h2⟩
section
variable {X : Cx} {ca : Nat → Addr} {W : WX} {b : Bool} {a c : Expr} {fa fb : En → Rz D} {pos : Pos} {Φ : Fm}
def dgD : D → D → Option D
  | .dic ks ds, .str x => dlk ks ds x
  | _, _ => none
theorem de_dget (hr : Rm X.A) (ha : DE b ca W X a fa) (hb : DE b ca W X c fb) (hs : NoSl c := by exact fun _ _ => rfl) : DE b ca W X (.Subscript a c pos) (eBin dgD fa fb) := by
  have hu : X.A.units + 1 < cLine := by have := hr.un; omega
  refine pe_imp (pe_dget hu ha hb hs) fun σ H Q ⟨Γ, e, r, h⟩ => ⟨Γ, e, r, h.bind.imp fun d H1 s1 k1 x rx => ⟨Γ, e, r.same s1, k1.bind.imp fun d2 H2 s2 k2 y ry => ?_⟩⟩
  obtain ⟨z, hz, k⟩ := k2.ofO
  cases d with
  | dic ks ds =>
    cases d2 with
    | str w =>
      have rx := rx.same s2
      unfold Rep at rx
      obtain ⟨p, vs, rfl, hp, _, _, t⟩ := rx
      obtain ⟨v, h1, h2⟩ := dlk_val t (show dlk ks ds w = some z from hz)
      have ey := rep_str ry
      subst ey
      refine ⟨p, v, rfl, ?_, k H2 (Same.refl _) v h2⟩
      have := DGet.k (k := (Sum.inr w : Key)) hp
      rw [h1] at this
      exact this
    | _ => cases hz
  | _ => cases hz
/-- the pairs of a display -/
def prs (K : PySem.W.Frag) (n : Nat) (ca : Nat → Addr) (W : WX) : List Str → List (En → Rz D) → List (TE × TE)
  | k :: ks, f :: fs => (tC (.str k), tOf K n ca W true f) :: prs K n ca W ks fs
  | _, _ => []
abbrev DPs (ca : Nat → Addr) (W : WX) (X : Cx) (pos : Pos) (keys : List (Option Expr)) (values : List Expr) (ks : List Str) (fs : List (En → Rz D)) : Prop := PPs X pos keys values (prs X.K X.N.length ca W ks fs) ∧ ks.length = fs.length
theorem dps_nil : DPs ca W X pos [] [] [] [] := ⟨pps_nil, rfl⟩
theorem dps_cons {k : Str} {j p2} {v : Expr} {f : En → Rz D} {keys : List (Option Expr)} {values : List Expr} {ks : List Str} {fs : List (En → Rz D)} (hv : DE true ca W X v f) (hr : DPs ca W X pos keys values ks fs) : DPs ca W X pos (some (.Constant (.str k) j p2) :: keys) (v :: values) (k :: ks) (f :: fs) :=
  ⟨pps_cons pe_str hv hr.1, by simp [hr.2]⟩
theorem prs_of {K : PySem.W.Frag} {n : Nat} : ∀ {ks : List Str} {fs : List (En → Rz D)} {σ : St} {H : Hp} {Γ : Gm} {e : En} {Q : List (V × V) → Hp → Prop}, ks.length = fs.length → R K n Γ σ H e →
    Out ca W σ H (fun ds H' => ∀ vs, RepL K Γ H' ds vs → Q ((ks.zip vs).map fun q => (.str q.1, q.2)) H') (evs fs e) → tPairs (prs K n ca W ks fs) σ H Q
  | [], [], σ, H, Γ, e, Q, _, r, h => h H (Same.refl _) [] .nil
  | [], _ :: _, _, _, _, _, _, hl, _, _ => by cases hl
  | _ :: _, [], _, _, _, _, _, hl, _, _ => by cases hl
  | k :: ks, f :: fs, σ, H, Γ, e, Q, hl, r, h => by
    show tOf K n ca W true f σ H fun y H2 => tPairs (prs K n ca W ks fs) σ H2 fun ps H3 => Q ((.str k, y) :: ps) H3
    have h : Out ca W σ H (fun ds H' => ∀ vs, RepL K Γ H' ds vs → Q (((k :: ks).zip vs).map fun q => (.str q.1, q.2)) H') ((f e).bind fun d => (evs fs e).bind fun ds => .ok (d :: ds)) := h
    refine ⟨Γ, e, r, h.bind.imp fun d H1 s1 k1 y ry => prs_of (by simpa using hl) (r.same s1) (k1.bind.imp fun ds H2 s2 k2 vs rvs => ?_)⟩
    exact k2 H2 (Same.refl _) (y :: vs) (.cons (ry.same s2) rvs)
theorem merge_nodup : ∀ (ks : List Str) (vs : List V) (acc : List (Key × V)), ks.Nodup → (∀ k ∈ ks, ∀ p ∈ acc, p.1 ≠ Sum.inr k) → mergeK acc (dkv ks vs) = acc ++ dkv ks vs
  | [], vs, acc, _, _ => by simp [dkv, mergeK]
  | k :: ks, [], acc, _, _ => by simp [dkv, mergeK]
  | k :: ks, v :: vs, acc, hn, h => by
    rw [dkv_cons]
    show mergeK (putK acc (Sum.inr k) v) (dkv ks vs) = _
    have e : putK acc (Sum.inr k : Key) v = acc ++ [(Sum.inr k, v)] := by
      unfold putK
      rw [if_neg]
      intro z
      rw [List.any_eq_true] at z
      obtain ⟨p, hp, hq⟩ := z
      exact h k List.mem_cons_self p hp (of_decide_eq_true hq)
    rw [e, merge_nodup ks vs _ (List.nodup_cons.mp hn).2 fun k' hk' p hp => ?_]
    · simp
    · rcases List.mem_append.mp hp with hp | hp
      · exact h k' (List.mem_cons_of_mem _ hk') p hp
      · rw [List.mem_singleton.mp hp]
        intro z
        exact (List.nodup_cons.mp hn).1 (Sum.inr.inj z ▸ hk')
theorem dkv_pairs : ∀ (ks : List Str) (vs : List V), ((ks.zip vs).map fun q => ((V.str q.1, q.2) : V × V)) = (dkv ks vs).map fun kv => (kV kv.1, kv.2)
  | [], _ => rfl
  | _ :: _, [] => rfl
  | k :: ks, v :: vs => by
    rw [dkv_cons, List.zip_cons_cons, List.map_cons, List.map_cons, dkv_pairs ks vs]
    rfl
def eDic (ks : List Str) (fs : List (En → Rz D)) : En → Rz D := fun e => (evs fs e).bind fun ds => .ok (.dic ks ds)
theorem de_dict {keys : List (Option Expr)} {values : List Expr} {ks : List Str} {fs : List (En → Rz D)} (h : DPs ca W X pos keys values ks fs) (hn : ks.Nodup := by decide) (hk15 : ks.length ≤ 15 := by decide) (hall : keys.all (·.isSome) = true := by rfl) (hl : keys.length = values.length := by rfl) (h0 : keys ≠ [] := by exact fun z => nomatch z)
    (h15 : keys.length ≤ 15 := by decide) : DE true ca W X (.Dict keys values pos) (eDic ks fs) := by
  refine pe_imp (pe_disp h.1 hall hl h0 h15) fun σ H Q ⟨Γ, e, r, k⟩ p hp => ?_
  have s0 : Same H (upd H p (.dK [])) := same_new hp
  have ho : Γ.own p = none := by
    cases q : Γ.own p with
    | none => rfl
    | some i => exact absurd hp (r.al p (by rw [q]; exact fun z => nomatch z))
  have k : Out ca W σ H (fun d H' => ∀ v, Rep X.K (gmb true Γ) H' d v → Q v H') ((evs fs e).bind fun ds => .ok (.dic ks ds)) := k
  cases qe : evs fs e with
  | bad => rw [qe] at k; exact k.elim
  | exc c =>
    rw [qe] at k
    refine prs_of h.2 (r.same s0) ?_
    rw [qe]
    exact fun H' s' => k H' (s0.trans s')
  | ok ds =>
    rw [qe] at k
    refine prs_of h.2 (r.marked (k := X.N.length) hp s0 upd_same) ?_
    rw [qe]
    intro H2 s2 vs rvs
    have hp2 : H2 p = some (.dK []) := s2 _ _ upd_same
    have hlv : ks.length = vs.length := by rw [rvs.length, evs_len qe, h.2]
    refine ⟨hp2, dkv ks vs, ?_, ?_, ?_⟩
    · exact dkv_pairs ks vs
    · unfold dkv; rw [List.length_zip, List.length_map]; omega
    · rw [merge_nodup ks vs [] hn (fun _ _ _ h => by cases h), List.nil_append]
      have s3 : Same H (upd H2 p (.dK (dkv ks vs))) := fun q o hq => by
        rw [upd_ne (ne_of_none hq hp)]
        exact s2 _ _ (s0 _ _ hq)
      refine k _ s3 _ ?_
      unfold Rep
      refine ⟨p, vs, rfl, upd_same, ho, hlv, ?_⟩
      exact (rvs.wrD (o' := .dK (dkv ks vs)) (by rw [mark_self]; exact fun z => nomatch z) hp2).weak (Γ.le_mark p _)
end
theorem ev_wkT (ds : List D) : wkD (.tup ds) = .tup ds := (rfl)
theorem ev_Dic (ks : List Str) (fs : List (En → Rz D)) (e : En) : eDic ks fs e = (evs fs e).bind fun ds => .ok (.dic ks ds) := (rfl)
theorem ev_dg (ks : List Str) (ds : List D) (x : Str) : dgD (.dic ks ds) (.str x) = dlk ks ds x := (rfl)
end G
set_option Elab.async false
set_option linter.all false
set_option maxRecDepth 100000
set_option maxHeartbeats 4000000
namespace G
open PySem PySem.Spec PyProof.Rows L2

/-! ### raise -/
/-- what the class at C must say -/
structure ClsX (K : PySem.W.Frag) (C : Addr) : Prop where
  q : PySem.W.excIn K C [.type "ValueError", .type "Exception", .type "BaseException", .type "object"] "ValueError.__new__" = true
  kp : PySem.W.keepIn K (.ref C) = true
  sb : PySem.W.subIn K (.ref C) (.type "BaseException") = some true
  ty : PySem.W.typeIn K (.ref C) = some (.type "type")
  ex : ExcC K C
section
variable {X : Cx} {ca : Nat → Addr} {W : WX} {b : Bool} {a c : Expr} {fa fb : En → Rz D} {pos : Pos} {Φ : Fm}
def sRaise (k : Nat) : En → SR := fun e => .exc k e
theorem ds_raise {k : Nat} {x m : Str} {j : Nat} {p p2 cpos : Pos} (hc : X.calm = true) (tk : L2N.Takes X W) (hx : ClsX X.K (ca k)) (hm : X.mg x = some (.ref (ca k))) (hg : Gl X x := by rfl) (hdb : (x == ("__debug__" : Str)) = false := by decide) :
    DS ca W Φ X (.Raise (some (.Call (.Name x p) [.Constant (.str m) j p2] [] cpos)) none pos) (sRaise k) :=
  ps_imp (L2N.ps_raise hc tk (L2N.pmk_own PySem.F.excBase_ValueError hx.q hm hx.kp (raises_own hx.sb hx.ty) hg hdb)) fun E σ H ⟨Γ, e, r, h⟩ => h Γ σ H r .refl
/-! ### try -/
def nox : SR → SR
  | .exc _ _ => .bad
  | r => r
/-- the clause: isx tells of each class whether it is met, hd what is done -/
def exR (isx : Nat → Option Bool) (hd : Nat → En → SR) : SR → SR
  | .exc k e => match isx k with
    | some true => nox (hd k e)
    | some false => .exc k e
    | none => .bad
  | r => r
def sTry (g : En → SR) (isx : Nat → Option Bool) (hd : Nat → En → SR) : En → SR := fun e => exR isx hd (g e)
theorem nox_out {K : PySem.W.Frag} {n : Nat} {ca : Nat → Addr} {W W' : WX} {Φ : Fm} {E : Ends} {Γ : Gm} {H : Hp} : ∀ {r : SR}, sOut K n ca W Φ E Γ H (nox r) → sOut K n ca W' Φ E Γ H r
  | .next _, h => h
  | .ret _ _, h => h
  | .brk _, h => h
  | .cont _, h => h
  | .exc _ _, h => h.elim
  | .bad, h => h
theorem ds_try1 {x : Str} {C : Addr} {body suite : List Stmt} {b₀ : Stmt} {np pos' : Pos} {g : En → SR} {isx : Nat → Option Bool} {hd : Nat → En → SR} (tk : L2N.Takes X W) (hm : X.mg x = some (.ref C)) (hx : ∀ k b, isx k = some b → PySem.W.exmOne X.K (.ref (ca k)) (.ref C) = some b)
    (hb : ∀ (W' : WX) (pn : List (Addr × Obj)) (xe : Value → Shared → Prop), L2N.Takes (X.tr pn xe) W' → PassesOwn (model X.prog X.w) X.A X.env xe → DSs ca W' Φ (X.tr pn xe) body g)
    (hsu : ∀ (a : Addr) (oe : Obj) (k : Nat) (pn : List (Addr × Obj)), L2N.Zn (.ref (ca k)) none oe → (∃ vs, oe.data = .fields vs) → DSs ca W0 Φ (X.suite a ((a, oe) :: pn)) (b₀ :: suite) (hd k))
    (hg : Gl X x := by rfl) (hdb : (x == ("__debug__" : Str)) = false := by decide) (hs : X.stack = X.env :: X.outer := by rfl) (hf : X.env.frame = some X.env.locals := by rfl) :
    DS ca W Φ X (.Try body [.ExceptHandler (some (.Name x np)) none (b₀ :: suite) pos'] [] [] pos) (sTry g isx hd) := by
  let ts : Addr → Value → Option Addr → TS := fun _ cls d D σ H => ∃ k, cls = .ref (ca k) ∧ d = none ∧ sOf X.K X.N.length ca W0 Φ (hd k) D σ H
  have hsu' : ∀ (a : Addr) (oe : Obj) (cls : Value) (d : Option Addr) (pn : List (Addr × Obj)), L2N.Zn cls d oe → (∃ vs, oe.data = .fields vs) → PSs (X.suite a ((a, oe) :: pn)) (b₀ :: suite) (ts a cls d) := fun a oe cls d pn hz hfl => ⟨fun pins s σ H E I hh => by
    obtain ⟨k, rfl, rfl, h⟩ := hh
    exact (hsu a oe k pn hz hfl).run pins s σ H E I h⟩
  refine ps_imp (L2N.ps_try_many (tb := fun W' => sOf X.K X.N.length ca W' Φ g) (Wout := W) hs hf tk hb (.cons (c := .ref C) (ts := ts) ⟨hg, hdb, .inl hm⟩ hsu' .nil)) fun E σ H ⟨Γ, e, r, h⟩ => ⟨Γ, e, r, ?_⟩
  unfold sTry at h
  cases q : g e with
  | next e' => rw [q] at h; exact h
  | ret d e' => rw [q] at h; exact h
  | brk e' => rw [q] at h; exact h
  | cont e' => rw [q] at h; exact h
  | bad => rw [q] at h; exact h
  | exc k e' =>
    rw [q] at h
    intro Γ' σ' H' r' ev
    have h : sOut X.K X.N.length ca W Φ E Γ H (match isx k with | some true => nox (hd k e') | some false => .exc k e' | none => .bad) := h
    cases qx : isx k with
    | none => rw [qx] at h; exact h.elim
    | some bb =>
      refine ⟨bb, hx k bb qx, fun hbt a ha => ?_, fun hbf => ?_⟩
      · subst hbt
        rw [qx] at h
        exact ⟨k, rfl, rfl, Γ', e', r', nox_out (h.on ev)⟩
      · subst hbf
        rw [qx] at h
        exact h Γ' σ' H' r' ev
/-! ### try .. as e -/
def unB (i : Nat) : SR → SR
  | .next e => .next (e.set i .un)
  | .brk e => .brk (e.set i .un)
  | .cont e => .cont (e.set i .un)
  | .ret d e => .ret d ⟨fun _ => .un, e.s⟩
  | .exc _ _ => .bad
  | .bad => .bad
def exRA (isx : Nat → Option Bool) (hd : Nat → En → SR) : SR → SR
  | .exc k e => match isx k with
    | some true => hd k e
    | some false => .exc k e
    | none => .bad
  | r => r
def sTryA (g : En → SR) (isx : Nat → Option Bool) (hd : Nat → En → SR) : En → SR := fun e => exRA isx hd (g e)
theorem RS.setUn {K : PySem.W.Frag} {n : Nat} {Φ : Fm} {Γ : Gm} {σ : St} {H : Hp} {e : En} (r : RS K n Φ Γ σ H e) {i : Nat} : RS K n Φ Γ (σ.set i none) H (e.set i .un) := ⟨r.r.setUn none, r.j, r.ow, r.av⟩
theorem unB_out {K : PySem.W.Frag} {n : Nat} {ca : Nat → Addr} {W : WX} {Φ : Fm} {D : Ends} {Γ : Gm} {H : Hp} {i : Nat} : ∀ {r : SR}, sOut K n ca W Φ D Γ H (unB i r) → sOut K n ca W0 Φ { nx := fun σ' H' => D.nx (σ'.set i none) H', rt := D.rt, bk := fun σ' H' => D.bk (σ'.set i none) H', ct := fun σ' H' => D.ct (σ'.set i none) H' } Γ H r
  | .next _, h => fun Γ' σ' H' r' ev => h Γ' _ H' r'.setUn ev
  | .ret _ _, h => h
  | .brk _, h => fun Γ' σ' H' r' ev => h Γ' _ H' r'.setUn ev
  | .cont _, h => fun Γ' σ' H' r' ev => h Γ' _ H' r'.setUn ev
  | .exc _ _, h => h.elim
  | .bad, h => h
theorem ds_tryA {i : Nat} {x n : Str} {C : Addr} {body suite : List Stmt} {b₀ : Stmt} {np pos' : Pos} {g : En → SR} {isx : Nat → Option Bool} {h0 : Addr → Nat → En → SR} {hd : Nat → En → SR} (nd : X.N.Nodup) (tk : L2N.Takes X W) (hm : X.mg x = some (.ref C)) (hx : ∀ k b, isx k = some b → PySem.W.exmOne X.K (.ref (ca k)) (.ref C) = some b)
    (hb : ∀ (W' : WX) (pn : List (Addr × Obj)) (xe : Value → Shared → Prop), L2N.Takes (X.tr pn xe) W' → PassesOwn (model X.prog X.w) X.A X.env xe → DSs ca W' Φ (X.tr pn xe) body g)
    (hsu : ∀ (a : Addr) (oe : Obj) (k : Nat) (pn : List (Addr × Obj)), L2N.Zn (.ref (ca k)) none oe → (∃ vs, oe.data = .fields vs) → DSs ca W0 Φ (X.suite a ((a, oe) :: pn)) (b₀ :: suite) (h0 a k))
    (heq : ∀ a k e, unB i (h0 a k (e.set i (.val (.adr a)))) = hd k e)
    (hi : X.N[i]? = some n := by rfl) (hln : X.env.kindOf n = some .local := by rfl) (hg : Gl X x := by rfl) (hdb : (x == ("__debug__" : Str)) = false := by decide) (hs : X.stack = X.env :: X.outer := by rfl) (hf : X.env.frame = some X.env.locals := by rfl) :
    DS ca W Φ X (.Try body [.ExceptHandler (some (.Name x np)) (some n) (b₀ :: suite) pos'] [] [] pos) (sTryA g isx hd) := by
  let ts : Addr → Value → Option Addr → TS := fun a cls d D σ H => ∃ k, cls = .ref (ca k) ∧ d = none ∧ sOf X.K X.N.length ca W0 Φ (h0 a k) D σ H
  have hsu' : ∀ (a : Addr) (oe : Obj) (cls : Value) (d : Option Addr) (pn : List (Addr × Obj)), L2N.Zn cls d oe → (∃ vs, oe.data = .fields vs) → PSs (X.suite a ((a, oe) :: pn)) (b₀ :: suite) (ts a cls d) := fun a oe cls d pn hz hfl => ⟨fun pins s σ H E I hh => by
    obtain ⟨k, rfl, rfl, h⟩ := hh
    exact (hsu a oe k pn hz hfl).run pins s σ H E I h⟩
  refine ps_imp (L2N.ps_try_as (tb := fun W' => sOf X.K X.N.length ca W' Φ g) (ts := ts) (c := .ref C) (Wout := W) hs hf nd hi hln ⟨hg, hdb, .inl hm⟩ tk hb hsu') fun E σ H ⟨Γ, e, r, h⟩ => ⟨Γ, e, r, ?_⟩
  unfold sTryA at h
  cases q : g e with
  | next e' => rw [q] at h; exact h
  | ret d e' => rw [q] at h; exact h
  | brk e' => rw [q] at h; exact h
  | cont e' => rw [q] at h; exact h
  | bad => rw [q] at h; exact h
  | exc k e' =>
    rw [q] at h
    intro Γ' σ' H' r' ev
    have h : sOut X.K X.N.length ca W Φ E Γ H (match isx k with | some true => hd k e' | some false => .exc k e' | none => .bad) := h
    cases qx : isx k with
    | none => rw [qx] at h; exact h.elim
    | some bb =>
      refine ⟨bb, hx k bb qx, fun hbt a ha => ?_, fun hbf => ?_⟩
      · subst hbt
        rw [qx] at h
        have h := h.on ev
        rw [← heq a k e'] at h
        exact ⟨k, rfl, rfl, Γ', _, r'.set (gt_len hi) (by unfold Rep; rfl), unB_out h⟩
      · subst hbf
        rw [qx] at h
        exact h Γ' σ' H' r' ev
/-! ### isinstance(e, C) of a caught exception -/
theorem call_isP {a D : Addr} {oe : Obj} (C : ExcC X.K D) (hz : Zc (.ref D) none oe) (hf : ∃ vs, oe.data = .fields vs) (hp : (a, oe) ∈ X.pn) : CallR X (.builtin "isinstance") (rIsE X.K D a) := by
  intro pins s σ H xs us Q I r h
  obtain ⟨c, cv, b, rfl, hcv, e, q⟩ := h
  cases r with
  | cons rx rr =>
    cases rr with
    | cons rt rr =>
      cases rr
      cases rx
      have ec := hcv _ rt
      subst ec
      obtain ⟨hget, _⟩ := I.pin (a, oe) (List.mem_append.mpr (.inl hp))
      obtain ⟨vs, hv⟩ := hf
      have J : PySem.W.InstAt s.heap a oe D none := by
        obtain ⟨oc, od, oda, osl⟩ := oe
        obtain ⟨h1, h2⟩ := hz
        dsimp only at h1 h2 hv
        subst h1 h2 hv
        exact ⟨hget, rfl, rfl, trivial⟩
      exact PySem.W.kia_one (PySem.W.handS_kitx_exc C.hg C.hk C.hs C.hd C.ha C.hn C.ht C.hm) I.kIn J e (fun z => nomatch z) fun tk => ⟨.bl b, H, I.kept (t' := tk) fun _ _ z => z, rfl, q⟩
def eIsE (ad : Addr) (r : Option Bool) (f : En → Rz D) : En → Rz D := fun e => (f e).bind fun d => match d with
  | .adr a' => if a' = ad then Rz.ofO (r.map D.bl) else .bad
  | _ => .bad
/-- C a class of the program -/
theorem de_isE {ad D C : Addr} {oe : Obj} {r : Option Bool} {x : Str} {p p2 : Pos} (ex : ExcC X.K D) (hz : L2N.Zn (.ref D) none oe) (hf : ∃ vs, oe.data = .fields vs) (hp : (ad, oe) ∈ X.pn) (hm : X.mg "isinstance" = none) (hm2 : X.mg x = some (.ref C)) (hk : ∀ bb, r = some bb → PySem.W.kitOne X.K (.ref D) (.ref C) = some bb)
    (ha : DE b ca W X a fa) (hg : Gl X "isinstance" := by rfl) (hg2 : Gl X x := by rfl) (hd2 : (x == ("__debug__" : Str)) = false := by decide)
    (na : starEach [a, .Name x p2] X.env = (false, eval a X.env) :: starEach [.Name x p2] X.env := by rfl) (na2 : starEach [.Name x p2] X.env = (false, eval (.Name x p2) X.env) :: starEach [] X.env := by rfl) (hpl : (backTo pos (starEach [.Name x p2] X.env)).any (·.1) = false := by rfl) :
    DE b ca W X (.Call (.Name "isinstance" p) [a, .Name x p2] [] pos) (eIsE ad r fa) := by
  refine pe_imp (pe_callB (call_isP ex hz.zc hf hp) hg hm PyProof.Rows.boot_isinstance (pa_cons ha (pa_cons (pe_glob (v := .ref C) hg2 hm2 rfl hd2) pa_nil na2) na) (by decide) (by decide) na hpl) fun σ H Q ⟨Γ, e, rr, h⟩ => ⟨Γ, e, rr, h.bind.imp fun d H1 s k v rv => ?_⟩
  cases d with
  | adr a' =>
    dsimp only at k
    by_cases q : a' = ad
    · rw [if_pos q] at k
      obtain ⟨z, hz', k⟩ := k.ofO
      cases r with
      | none => cases hz'
      | some bb =>
        cases hz'
        unfold Rep at rv
        subst rv q
        exact ⟨.ref C, .ref C, bb, rfl, fun u hu => hu, hk bb rfl, k H1 (Same.refl _) _ .bl⟩
    · rw [if_neg q] at k; exact k.elim
  | _ => exact k.elim
/-- T a built-in class -/
theorem de_isEB {ad D : Addr} {oe : Obj} {r : Option Bool} {T : String} {x : Str} {p p2 : Pos} (ex : ExcC X.K D) (hz : L2N.Zn (.ref D) none oe) (hf : ∃ vs, oe.data = .fields vs) (hp : (ad, oe) ∈ X.pn) (hm : X.mg "isinstance" = none) (hm2 : X.mg x = none) (hv : bootBuiltins x = some (.type T)) (hk : ∀ bb, r = some bb → PySem.W.kitOne X.K (.ref D) (.type T) = some bb)
    (ha : DE b ca W X a fa) (hg : Gl X "isinstance" := by rfl) (hg2 : Gl X x := by rfl) (hn2 : x ≠ "__name__" := by decide) (hd2 : (x == ("__debug__" : Str)) = false := by decide)
    (na : starEach [a, .Name x p2] X.env = (false, eval a X.env) :: starEach [.Name x p2] X.env := by rfl) (na2 : starEach [.Name x p2] X.env = (false, eval (.Name x p2) X.env) :: starEach [] X.env := by rfl) (hpl : (backTo pos (starEach [.Name x p2] X.env)).any (·.1) = false := by rfl) :
    DE b ca W X (.Call (.Name "isinstance" p) [a, .Name x p2] [] pos) (eIsE ad r fa) := by
  refine pe_imp (pe_callB (call_isP ex hz.zc hf hp) hg hm PyProof.Rows.boot_isinstance (pa_cons ha (pa_cons (pe_bltn (v := .ty T) hg2 hm2 hv rfl hn2 hd2) pa_nil na2) na) (by decide) (by decide) na hpl) fun σ H Q ⟨Γ, e, rr, h⟩ => ⟨Γ, e, rr, h.bind.imp fun d H1 s k v rv => ?_⟩
  cases d with
  | adr a' =>
    dsimp only at k
    by_cases q : a' = ad
    · rw [if_pos q] at k
      obtain ⟨z, hz', k⟩ := k.ofO
      cases r with
      | none => cases hz'
      | some bb =>
        cases hz'
        unfold Rep at rv
        subst rv q
        exact ⟨.ty T, .type T, bb, rfl, fun u hu => hu, hk bb rfl, k H1 (Same.refl _) _ .bl⟩
    · rw [if_neg q] at k; exact k.elim
  | _ => exact k.elim
end
theorem ev_IsE (ad : Addr) (r : Option Bool) (f : En → Rz D) (e : En) : eIsE ad r f e = (f e).bind fun d => match d with
  | .adr a' => if a' = ad then Rz.ofO (r.map D.bl) else .bad
  | _ => .bad := (rfl)
end G
set_option Elab.async false
set_option linter.all false
set_option maxRecDepth 100000
set_option maxHeartbeats 4000000
namespace G
open PySem PySem.Spec PyProof.Rows L2 L2H

/-! ### a def that is called within an except suite, handed the exception -/
structure FnHE (P : Program) (w : World) (K : PySem.W.Frag) (mg : Str → Option Value) (base : Heap) (CX : CXT) (k : Nat) (f : Addr) (fd : FuncData) (ps : List Str) (sp : Addr × Obj → Sp) : Prop where
  len : ∀ p vs H Q E, sp p vs H Q E → vs.length = ps.length
  run : ∀ (A : Around) (outer : List PySem.Env) (s : Shared) (H : Hp) (args : Args) (us : List Value) (vs : List V) (Q : VK) (E : XK) (p : Addr × Obj), RoomH k A → Hot1 A p → PinOk outer H s p → Env0 P w K mg base A outer s H → BindsTo s fd args (ps.zip us) → Vals vs us → sp p vs H Q E →
    codeAny (model P w) A (.call (.ref f) args) (CR CX outer P w H s Q E) s
section
variable {P : Program} {w : World} {K : PySem.W.Frag} {mg : Str → Option Value} {base : Heap} {ca : Nat → Addr} {CX : CXT}
theorem fn_ofHE {k : Nat} {f : Addr} {name qual : Str} {params : Arguments} {body : List Stmt} {scope : Scope} {dV kV doc pm cdv ct oc : Value} {an od : Option Addr}
    {osl : Array (Option Value)} {N ps : List Str} {sp : Addr × Obj → Sp} (lk : K.lookup f = some ⟨oc, od, .func (PySem.W.fnOf name qual params body scope dV kV doc pm an cdv ct), osl⟩) (hcd : PySem.W.codeIn K cdv qual = true) (S : FnScope N ps scope)
    (len : ∀ p vs H Q E, sp p vs H Q E → vs.length = ps.length)
    (hbody : ∀ (A : Around) (outer : List PySem.Env) (s : Shared) (H : Hp) (vs : List V) (Q : VK) (E : XK) (p : Addr × Obj), Hot1 A p → RoomH k (A.deeper (envOfC qual scope s.heap.objs.size f cdv)) → sp p vs H Q E →
      ∃ t, PSs (cxH CX P w K mg base N qual scope f cdv A outer s H E p) body t ∧ t { nx := fun _ H' => Q .non H', rt := Q } (L2.start N vs) H) :
    FnHE P w K mg base CX (k + 1) f (PySem.W.fnOf name qual params body scope dV kV doc pm an cdv ct) ps sp := by
  refine ⟨len, fun A outer s H args us vs Q E p hr hot hpin e0 hb r hsp => ?_⟩
  have hl := len _ _ _ _ _ hsp
  have KX : K.In s.heap := e0.mod.kin.keeps fun b o e => (e0.bs b o e).1
  have lim : s.heap.NoLimit := e0.mod.nolimit.keeps fun b o e => (e0.bs b o e).1
  have hkind : ∀ y ∈ ps.zip us, scope.names.lookup y.1 = some .local ∨ (scope.names.lookup y.1 = some .cell ∧ ((cellsFrom (s.heap.objs.size + 1) scope.names []).lookup y.1).isSome = true) := fun ⟨n, v⟩ hy => by
    rcases S.par n (List.of_mem_zip hy).1 with q | q
    · exact .inl q
    · exact .inr ⟨q, PySem.W.cellsFrom_some _ _ _ (.inl q)⟩
  refine codeAny_call_function hr.depth (KX _ _ lk) rfl S.co S.gen rfl (PySem.W.codeRec_of KX hcd) (hb _ _ _ _ ?_)
  refine wpAny_newFunctionEnv_cells S.kind hkind fun env he s1 x => ?_
  subst he
  refine ⟨lim.keeps x.toInCall.keep, codeAny_func ?_⟩
  obtain ⟨t, ht, hq⟩ := hbody A outer s H vs Q E p hot (hr.deeper _) hsp
  have I : L2.Inv (cxH CX P w K mg base N qual scope f cdv A outer s H E p) [] (L2.start N vs) H s1 := inv_startH S hpin e0 hl r x
  refine wpAny_mono (ht.run [] s1 (L2.start N vs) H _ I hq) (fun fl s' hs => ?_) fun e s' hs => hs
  have fin : ∀ {σ' : St} {H' : Hp} {v : V} {u : Value}, L2.Inv (cxH CX P w K mg base N qual scope f cdv A outer s H E p) [] σ' H' s' → RelV v u → Q v H' → CE outer P w H s Q u s' :=
    fun {σ' H' v u} J rv q => ⟨v, H', J.os, J.bare, J.base, J.hok, rv, q⟩
  cases fl with
  | ret u =>
    obtain ⟨v, σ', H', J, rv, q⟩ := hs
    exact fin J rv q
  | next =>
    obtain ⟨σ', H', J, q⟩ := hs
    exact fin (v := V.non) (u := Value.none) J rfl q
  | brk =>
    obtain ⟨_, _, _, q⟩ := hs
    exact False.elim q
  | cont =>
    obtain ⟨_, _, _, q⟩ := hs
    exact False.elim q
def spOfH (K : PySem.W.Frag) (ca : Nat → Addr) (m : Nat) (F : Addr → Nat → List D → Rz D) : Addr × Obj → Sp := fun p vs H Q E => vs.length = m ∧ ∃ k, L2N.Zn (.ref (ca k)) none p.2 ∧ (∃ us, p.2.data = .fields us) ∧ ∃ Γ ds, (∀ p, Γ.own p ≠ none → H p ≠ none) ∧ RepL K Γ H ds vs ∧
  match F p.1 k ds with
  | .ok d => ∀ v H', Same H H' → Rep K Γ H' d v → Q v H'
  | _ => False
theorem fn_okH {x qual : Str} {st : Stmt} {f : Addr} {fd : FuncData} {N ps : List Str} {k : Nat} {g : Addr → Nat → En → SR} (F : Fun K x qual st f fd) (S : FnScope N ps (defScope st))
    (hbody : ∀ (cdv : Value) (A : Around) (outer : List PySem.Env) (s : Shared) (H : Hp) (E : XK) (Φ : Fm) (p : Addr × Obj) (j : Nat), L2N.Zn (.ref (ca j)) none p.2 → (∃ us, p.2.data = .fields us) → RoomH k (A.deeper (envOfC qual (defScope st) s.heap.objs.size f cdv)) →
      DSs ca W0 Φ (cxH CX P w K mg base N qual (defScope st) f cdv A outer s H E p) (defBody st) (g p.1 j)) : FnHE P w K mg base CX (k + 1) f fd ps (spOfH K ca ps.length (fun a j => fnD (g a j))) := by
  have hpl : ps.length ≤ N.length := by have := congrArg List.length S.pre; rw [List.length_take] at this; omega
  obtain ⟨oc, od, kV, doc, pm, an, cdv, ct, osl, rfl, lk, hcd⟩ := F.ex
  refine fn_ofHE lk hcd S (fun p vs H Q E h => h.1) fun A outer s H vs Q E p hot hr h => ?_
  obtain ⟨hl, j, hz, hfl, Γ, ds, al, rv, h⟩ := h
  refine ⟨_, hbody cdv A outer s H E (FmOf H Γ.own Γ.om al) p j hz hfl hr, ?_⟩
  let Γ' : Gm := { own := fun p => match Γ.own p with | none => none | some _ => some N.length, om := Γ.om }
  have ownN : ∀ p, Γ.own p = none ↔ Γ'.own p = none := fun p => by
    show _ ↔ (match Γ.own p with | none => none | some _ => some N.length) = none
    cases Γ.own p <;> simp
  have le1 : Γ'.Le Γ := ⟨fun a q => (ownN a).mp q, fun _ _ q => q⟩
  refine ⟨Γ', En.st ds, ⟨⟨start_len (by omega), fun i => ?_, fun p hp => ?_⟩, ⟨rfl, Same.refl H⟩, fun p i hp hi => ?_, fun p hp => ?_⟩, ?_⟩
  · show SRel K Γ' H i (match ds[i]? with | some d => .val d | none => .un) _
    cases q : ds[i]? with
    | none => trivial
    | some d =>
      obtain ⟨v, hv, r⟩ := rv.get q
      exact ⟨v, start_get hv, r.weak le1⟩
  · exact al p fun z => hp ((ownN p).mp z)
  · exfalso
    have hp : (match Γ.own p with | none => none | some _ => some N.length) = some i := hp
    cases q : Γ.own p with
    | none => rw [q] at hp; cases hp
    | some j => rw [q] at hp; cases hp; exact Nat.lt_irrefl _ hi
  · have hp : Γ.own p ≠ none := hp
    cases q : Γ.own p with
    | none => exact absurd q hp
    | some j =>
      refine ⟨N.length, ?_, Nat.le_refl _⟩
      show (match Γ.own p with | none => none | some _ => some N.length) = _
      rw [q]
  · have h : match fnD (g p.1 j) ds with | .ok d => ∀ v H', Same H H' → Rep K Γ H' d v → Q v H' | _ => False := h
    unfold fnD at h
    show sOut K N.length ca _ _ _ _ _ (g p.1 j _)
    cases q : g p.1 j (En.st ds) with
    | ret d e =>
      rw [q] at h
      intro Γ2 H2 v hj hav r
      obtain ⟨ho, hs⟩ := hj
      refine h v H2 hs (r.weak ⟨fun a z => ?_, fun n a z => by rw [← ho]; exact z⟩)
      cases qa : Γ.own a with
      | none => rfl
      | some j => exact absurd z (hav a (by show Γ.own a ≠ none; rw [qa]; exact fun z => nomatch z))
    | next e =>
      rw [q] at h
      intro Γ2 σ2 H2 r _
      exact h .non H2 r.j.2 .non
    | exc c e => rw [q] at h; exact h.elim
    | brk e => rw [q] at h; exact h.elim
    | cont e => rw [q] at h; exact h.elim
    | bad => rw [q] at h; exact h.elim
end
section
variable {X : Cx} {ca : Nat → Addr} {W : WX} {b : Bool} {a c : Expr} {fa fb : En → Rz D} {pos : Pos} {Φ : Fm}
theorem hot_of {A : Around} {p : Addr × Obj} {cls : Value} {d : Option Addr} (hh : A.handled = some (.ref p.1)) (hz : L2N.Zn cls d p.2) (hf : ∃ vs, p.2.data = .fields vs) : Hot1 A p := by
  obtain ⟨vs, hv⟩ := hf
  exact ⟨hh, vs, hv, hz.2.2 vs hv⟩
def eCallH (F : List D → Rz D) (fs : List (En → Rz D)) : En → Rz D := fun e => (evs fs e).bind fun ds => match F ds with | .ok d => .ok d | _ => .bad
theorem de_callH {k m j : Nat} {f : Addr} {fd : FuncData} {ps : List Str} {F : Addr → Nat → List D → Rz D} {x : Str} {q : Pos} {es : List Expr} {fs : List (En → Rz D)} {ad : Addr} {oe : Obj} (FN : FnHE X.prog X.w X.K X.mg X.base (L2N.CX X.prog X.w) k f fd ps (spOfH X.K ca m F)) (hr : RoomH k X.A) (hz : L2N.Zn (.ref (ca j)) none oe) (hf : ∃ us, oe.data = .fields us) (hh : X.A.handled = some (.ref ad)) (hp : (ad, oe) ∈ X.pn)
    (hm : X.mg x = some (.ref f)) (hk : PySem.W.keepIn X.K (.ref f) = true) (hb : Binds X.K fd ps []) (ha : DA b ca W X (a :: es) fs) (hl : fs.length = m := by rfl) (hg : Gl X x := by rfl) (hdb : (x == ("__debug__" : Str)) = false := by decide)
    (he : starEach (a :: es) X.env = (false, eval a X.env) :: starEach es X.env := by rfl) (hpl : (backTo pos (starEach es X.env)).any (·.1) = false := by rfl) :
    DE b ca W X (.Call (.Name x q) (a :: es) [] pos) (eCallH (F ad j) fs) := by
  refine ⟨fun pins s σ H Q I h => ?_⟩
  obtain ⟨Γ, e, r, h⟩ := h
  refine wpAny_Call_Name_kw (ld_glob I hg hm ?_ hdb)
  have hA := ha.run pos pins s σ H (fun vs H1 => spOfH X.K ca m F (ad, oe) vs H1 Q (fun _ _ _ => False)) I ⟨Γ, e, r, h.bind.has.imp fun ds H1 s1 ⟨hd, kk⟩ vs rvs => ?_⟩
  · refine PySem.W.callWith_K (h₀ := X.base) I.ok.mod.kin hk (thn hA fun us s1 ⟨vs, H1, I1, rv, q1⟩ => ⟨I1.kIn, ?_⟩) he hpl
    have hl' : us.length = ps.length := by rw [← rv.length]; exact FN.len _ _ _ _ _ q1
    have bb := hb s1 us I1.kIn (by rw [List.append_nil]; exact hl')
    rw [List.append_nil] at bb
    have P1 := I1.pin (ad, oe) (List.mem_append_left _ hp)
    have hpin : PinOk X.stack H1 s1 (ad, oe) := ⟨P1.1, P1.2.1, fun hm => (List.mem_cons.mp (I1.stkSub ad hm)).elim P1.2.2.1 P1.2.2.2.1, P1.2.2.2.2⟩
    refine wpAny_call (codeAny_mono (FN.run X.A X.stack s1 H1 ⟨us, []⟩ us vs Q (fun _ _ _ => False) (ad, oe) hr (hot_of (p := (ad, oe)) hh hz hf) hpin I1.env0 bb rv q1) fun r s' hq => ?_)
    cases r with
    | error e =>
      obtain ⟨_, _, _, _, _, _, _, _, _, _, _, _, z⟩ := (show L2N.CX X.prog X.w X.stack H1 s1 (fun _ _ _ => False) e s' from hq)
      exact z.elim
    | ok fl =>
      cases fl with
      | ret u => exact I1.after hq
      | next => exact False.elim hq
      | brk => exact False.elim hq
      | cont => exact False.elim hq
  · refine ⟨by rw [rvs.length, evs_len hd]; exact hl, j, hz, hf, gmb b Γ, ds, gmb_al (r.same s1).al, rvs, ?_⟩
    cases qF : F ad j ds with
    | ok d => rw [qF] at kk; exact fun v H' s' rv => kk H' s' v rv
    | exc c => rw [qF] at kk; exact kk.elim
    | bad => rw [qF] at kk; exact kk.elim
end
end G
set_option Elab.async false
set_option linter.all false
set_option maxRecDepth 100000
set_option maxHeartbeats 4000000
namespace G
open PySem PySem.Spec PyProof.Rows L2 L2H

theorem roomM {k : Nat} {A : Around} {h : Option Value} (r : Room k A) : RoomH k (A.mark h) := ⟨r.dp, r.un⟩
/-! ### isinstance(e, C), the class told by a table -/
section
variable {X : Cx} {ca : Nat → Addr} {W : WX} {b : Bool} {a c : Expr} {fa fb : En → Rz D} {pos : Pos} {Φ : Fm}
theorem call_isQ {a D : Addr} {oe : Obj} (hz : Zc (.ref D) none oe) (hf : ∃ vs, oe.data = .fields vs) (hp : (a, oe) ∈ X.pn) : CallR X (.builtin "isinstance") (fun xs H Q => ExcC X.K D ∧ rIsE X.K D a xs H Q) := by
  intro pins s σ H xs us Q I r h
  exact call_isP h.1 hz hf hp pins s σ H xs us Q I r h.2
theorem de_isX {ad C : Addr} {k : Nat} {oe : Obj} {r : Option Bool} {x : Str} {p p2 : Pos} (hz : L2N.Zn (.ref (ca k)) none oe) (hf : ∃ vs, oe.data = .fields vs) (hp : (ad, oe) ∈ X.pn) (hm : X.mg "isinstance" = none) (hm2 : X.mg x = some (.ref C)) (hk : ∀ bb, r = some bb → ExcC X.K (ca k) ∧ PySem.W.kitOne X.K (.ref (ca k)) (.ref C) = some bb)
    (ha : DE b ca W X a fa) (hg : Gl X "isinstance" := by rfl) (hg2 : Gl X x := by rfl) (hd2 : (x == ("__debug__" : Str)) = false := by decide)
    (na : starEach [a, .Name x p2] X.env = (false, eval a X.env) :: starEach [.Name x p2] X.env := by rfl) (na2 : starEach [.Name x p2] X.env = (false, eval (.Name x p2) X.env) :: starEach [] X.env := by rfl) (hpl : (backTo pos (starEach [.Name x p2] X.env)).any (·.1) = false := by rfl) :
    DE b ca W X (.Call (.Name "isinstance" p) [a, .Name x p2] [] pos) (eIsE ad r fa) := by
  refine pe_imp (pe_callB (call_isQ hz.zc hf hp) hg hm PyProof.Rows.boot_isinstance (pa_cons ha (pa_cons (pe_glob (v := .ref C) hg2 hm2 rfl hd2) pa_nil na2) na) (by decide) (by decide) na hpl) fun σ H Q ⟨Γ, e, rr, h⟩ => ⟨Γ, e, rr, h.bind.imp fun d H1 s k v rv => ?_⟩
  cases d with
  | adr a' =>
    dsimp only at k
    by_cases q : a' = ad
    · rw [if_pos q] at k
      obtain ⟨z, hz', k⟩ := k.ofO
      cases r with
      | none => cases hz'
      | some bb =>
        cases hz'
        unfold Rep at rv
        subst rv q
        exact ⟨(hk bb rfl).1, .ref C, .ref C, bb, rfl, fun u hu => hu, (hk bb rfl).2, k H1 (Same.refl _) _ .bl⟩
    · rw [if_neg q] at k; exact k.elim
  | _ => exact k.elim
theorem de_isXB {ad : Addr} {k : Nat} {oe : Obj} {r : Option Bool} {T : String} {x : Str} {p p2 : Pos} (hz : L2N.Zn (.ref (ca k)) none oe) (hf : ∃ vs, oe.data = .fields vs) (hp : (ad, oe) ∈ X.pn) (hm : X.mg "isinstance" = none) (hm2 : X.mg x = none) (hv : bootBuiltins x = some (.type T)) (hk : ∀ bb, r = some bb → ExcC X.K (ca k) ∧ PySem.W.kitOne X.K (.ref (ca k)) (.type T) = some bb)
    (ha : DE b ca W X a fa) (hg : Gl X "isinstance" := by rfl) (hg2 : Gl X x := by rfl) (hn2 : x ≠ "__name__" := by decide) (hd2 : (x == ("__debug__" : Str)) = false := by decide)
    (na : starEach [a, .Name x p2] X.env = (false, eval a X.env) :: starEach [.Name x p2] X.env := by rfl) (na2 : starEach [.Name x p2] X.env = (false, eval (.Name x p2) X.env) :: starEach [] X.env := by rfl) (hpl : (backTo pos (starEach [.Name x p2] X.env)).any (·.1) = false := by rfl) :
    DE b ca W X (.Call (.Name "isinstance" p) [a, .Name x p2] [] pos) (eIsE ad r fa) := by
  refine pe_imp (pe_callB (call_isQ hz.zc hf hp) hg hm PyProof.Rows.boot_isinstance (pa_cons ha (pa_cons (pe_bltn (v := .ty T) hg2 hm2 hv rfl hn2 hd2) pa_nil na2) na) (by decide) (by decide) na hpl) fun σ H Q ⟨Γ, e, rr, h⟩ => ⟨Γ, e, rr, h.bind.imp fun d H1 s k v rv => ?_⟩
  cases d with
  | adr a' =>
    dsimp only at k
    by_cases q : a' = ad
    · rw [if_pos q] at k
      obtain ⟨z, hz', k⟩ := k.ofO
      cases r with
      | none => cases hz'
      | some bb =>
        cases hz'
        unfold Rep at rv
        subst rv q
        exact ⟨(hk bb rfl).1, .ty T, .type T, bb, rfl, fun u hu => hu, (hk bb rfl).2, k H1 (Same.refl _) _ .bl⟩
    · rw [if_neg q] at k; exact k.elim
  | _ => exact k.elim
end
/-! ### the law: nothing leaves it -/
def lawSp (K : PySem.W.Frag) (m : Nat) (F : List D → Rz D) : Sp := fun vs H Q E => vs.length = m ∧ ∃ Γ ds, (∀ p, Γ.own p ≠ none → H p ≠ none) ∧ RepL K Γ H ds vs ∧
  match F ds with
  | .ok d => ∀ v H', Same H H' → Rep K Γ H' d v → Q v H'
  | _ => False
theorem fn_law {P : Program} {w : World} {K : PySem.W.Frag} {mg : Str → Option Value} {base : Heap} {CX : CXT} {k : Nat} {f : Addr} {fd : FuncData} {ps : List Str} {ca : Nat → Addr} {m : Nat} {F : List D → Rz D} (h : FnOk P w K mg base CX k f fd ps (spOf K ca m F)) : FnOk P w K mg base CX k f fd ps (lawSp K m F) := by
  have imp : ∀ vs H Q E, lawSp K m F vs H Q E → spOf K ca m F vs H Q E := by
    intro vs H Q E ⟨h1, Γ, ds, h2, h3, h4⟩
    refine ⟨h1, Γ, ds, h2, h3, ?_⟩
    cases q : F ds with
    | ok d => rw [q] at h4; exact h4
    | exc c => rw [q] at h4; exact h4.elim
    | bad => rw [q] at h4; exact h4.elim
  exact ⟨fun vs H Q E hh => h.len vs H Q E (imp vs H Q E hh), fun A outer s H args us vs Q E a1 a2 a3 a4 a5 => h.run A outer s H args us vs Q E a1 a2 a3 a4 (imp vs H Q E a5)⟩
theorem sp_lawL {K : PySem.W.Frag} {F : List D → Rz D} (hF : ∀ ns : List Int, ns.length ≤ 63 → F [.scr ns] = .ok (.bl true)) {H : Hp} {a : Addr} {ns : List Int} (hl : ns.length ≤ 63) (hS : SqL K H a (ns.map V.int)) :
    lawSp K 1 F [.ref a] H (fun v _ => v = .bl true) fun _ _ _ => False := by
  obtain ⟨h1, Γ, ds, h2, h3, h4⟩ := sp_law (ca := fun _ => 0) hF hl hS
  refine ⟨h1, Γ, ds, h2, h3, ?_⟩
  cases q : F ds with
  | ok d => rw [q] at h4; exact h4
  | exc c => rw [q] at h4; exact (h4 H (Same.refl _)).elim
  | bad => rw [q] at h4; exact h4.elim
theorem ev_CallH (F : List D → Rz D) (fs : List (En → Rz D)) (e : En) : eCallH F fs e = (evs fs e).bind fun ds => match F ds with | .ok d => .ok d | _ => .bad := (rfl)
theorem ev_unN (i : Nat) (e : En) : unB i (.next e) = .next (e.set i .un) := (rfl)
theorem ev_unR (i : Nat) (d : D) (e : En) : unB i (.ret d e) = .ret d ⟨fun _ => .un, e.s⟩ := (rfl)
theorem ev_sets_s (e : En) (i : Nat) (x : SV) : (e.set i x).s = e.s := (rfl)
theorem ev_unX (i : Nat) (k : Nat) (e : En) : unB i (.exc k e) = .bad := (rfl)
theorem ev_unB (i : Nat) : unB i .bad = .bad := (rfl)
theorem ev_TryA (g : En → SR) (isx : Nat → Option Bool) (hd : Nat → En → SR) (e : En) : sTryA g isx hd e = exRA isx hd (g e) := (rfl)
theorem ev_Try (g : En → SR) (isx : Nat → Option Bool) (hd : Nat → En → SR) (e : En) : sTry g isx hd e = exR isx hd (g e) := (rfl)
theorem ev_exN (isx : Nat → Option Bool) (hd : Nat → En → SR) (e : En) : exRA isx hd (.next e) = .next e := (rfl)
theorem ev_exR (isx : Nat → Option Bool) (hd : Nat → En → SR) (d : D) (e : En) : exRA isx hd (.ret d e) = .ret d e := (rfl)
theorem ev_exE (isx : Nat → Option Bool) (hd : Nat → En → SR) (k : Nat) (e : En) : exRA isx hd (.exc k e) = match isx k with | some true => hd k e | some false => .exc k e | none => .bad := (rfl)
theorem ev_tyN (isx : Nat → Option Bool) (hd : Nat → En → SR) (e : En) : exR isx hd (.next e) = .next e := (rfl)
theorem ev_tyR (isx : Nat → Option Bool) (hd : Nat → En → SR) (d : D) (e : En) : exR isx hd (.ret d e) = .ret d e := (rfl)
theorem ev_tyE (isx : Nat → Option Bool) (hd : Nat → En → SR) (k : Nat) (e : En) : exR isx hd (.exc k e) = match isx k with | some true => nox (hd k e) | some false => .exc k e | none => .bad := (rfl)
theorem ev_Raise (k : Nat) (e : En) : sRaise k e = .exc k e := (rfl)
theorem ev_noxN (e : En) : nox (.next e) = .next e := (rfl)
theorem ev_noxR (d : D) (e : En) : nox (.ret d e) = .ret d e := (rfl)
theorem eqv_bt (x : Bool) : eqv (.bl x) (.bl true) = x := by simp only [eqv]; cases x <;> rfl
theorem ct4b (a b c d : Bool) : ctD [.bl a, .bl b, .bl c, .bl d] (.bl true) = some (.int ((if a then 1 else 0) + (if b then 1 else 0) + (if c then 1 else 0) + (if d then 1 else 0))) := by
  unfold ctD
  rw [if_pos ⟨by simp [okd], by simp [okd, okdL]⟩]
  simp only [List.countP_cons, List.countP_nil, eqv_bt]
  cases a <;> cases b <;> cases c <;> cases d <;> rfl
theorem ix4b (a b c d : Bool) : ixOf [.bl a, .bl b, .bl c, .bl d] (.bl true) = if a then some (.int 0) else if b then some (.int 1) else if c then some (.int 2) else if d then some (.int 3) else none := by
  unfold ixOf
  rw [if_pos ⟨by simp [okd], by simp [okd, okdL]⟩]
  simp only [firstEq, eqv_bt]
  cases a <;> cases b <;> cases c <;> cases d <;> rfl
/-- a def that raises -/
def Rx (r : SR) (k : Nat) : Prop := ∃ e, r = .exc k e
theorem fnD_exc {g : En → SR} {ds : List D} {k : Nat} (h : Rx (g (En.st ds)) k) : fnD g ds = .exc k := by
  obtain ⟨e, h⟩ := h
  unfold fnD; rw [h]
theorem Rx.seq {g h : En → SR} {e e1 : En} {k : Nat} (h1 : g e = .next e1) (h2 : Rx (h e1) k) : Rx (sSeq g h e) k := by
  unfold sSeq; rw [h1]; exact h2
theorem Rx.now {g h : En → SR} {e : En} {k : Nat} (h1 : Rx (g e) k) : Rx (sSeq g h e) k := by
  obtain ⟨e1, h1⟩ := h1
  exact ⟨e1, by unfold sSeq; rw [h1]⟩
theorem Rx.ift {c : En → Rz Bool} {g h k : En → SR} {e : En} {n : Nat} (h1 : c e = .ok true) (h2 : Rx (g e) n) : Rx (sSeq (sIf c g k) h e) n :=
  .now (by unfold sIf; rw [h1]; exact h2)
theorem Rx.iff {c : En → Rz Bool} {g h : En → SR} {e : En} {n : Nat} (h1 : c e = .ok false) (h2 : Rx (h e) n) : Rx (sSeq (sIf c g SR.next) h e) n :=
  .seq (by unfold sIf; rw [h1]; rfl) h2
theorem Rx.set {i : Nat} {f : En → Rz D} {h : En → SR} {e : En} {x : D} {n : Nat} (h1 : f e = .ok x) (h2 : Rx (h (e.set i (.val x))) n) : Rx (sSeq (sSet i f) h e) n :=
  .seq (by unfold sSet; rw [h1]; rfl) h2
theorem Rx.raise {k : Nat} {e : En} : Rx (sRaise k e) k := ⟨e, rfl⟩
end G
set_option Elab.async false
set_option linter.all false
set_option maxRecDepth 100000
set_option maxHeartbeats 4000000
namespace G
open PySem PySem.Spec PyProof.Rows L2
section
variable {X : Cx} {ca : Nat → Addr} {W : WX} {b : Bool} {a c : Expr} {fa fb : En → Rz D} {pos : Pos} {Φ : Fm}
/-- tuple(range(n)) -/
def trg : D → Rz D
  | .int j => if RgOk 0 j then .ok (.tup (rngD 0 (j - 0).toNat)) else .bad
  | _ => .bad
def eTrg (f : En → Rz D) : En → Rz D := fun e => (f e).bind trg
theorem de_tupRg {p p2 pos2 : Pos} (hc : X.calm = true) (hm : X.mg "tuple" = none) (hm2 : X.mg "range" = none) (ha : DE b ca W X a fa) (hg : Gl X "tuple" := by rfl) (hg2 : Gl X "range" := by rfl)
    (na : starEach [a] X.env = (false, eval a X.env) :: starEach [] X.env := by rfl)
    (na3 : starEach [.Call (.Name "range" p2) [a] [] pos2] X.env = (false, eval (.Call (.Name "range" p2) [a] [] pos2) X.env) :: starEach [] X.env := by rfl) :
    DE b ca W X (.Call (.Name "tuple" p) [.Call (.Name "range" p2) [a] [] pos2] [] pos) (eTrg fa) := by
  refine pe_imp (pe_tupRg hc hg hm (prg_1 hg2 hm2 ha na) na3) fun σ H Q ⟨Γ, e, r, h⟩ => ⟨Γ, e, r, h.bind.imp fun dx H1 s1 k1 x rx => ?_⟩
  cases dx with
  | int j =>
    have k1 : Out ca W σ H1 (fun d H' => ∀ (v : V), Rep X.K (gmb b Γ) H' d v → Q v H') (if RgOk 0 j then .ok (.tup (rngD 0 (j - 0).toNat)) else .bad) := k1
    by_cases hj : RgOk 0 j
    · rw [if_pos hj] at k1
      refine ⟨j, rep_int rx, hj, fun q hq => k1 _ (same_new hq) _ ?_⟩
      unfold Rep
      exact ⟨q, _, rfl, SqT.of upd_same, repL_rng _ _⟩
    · rw [if_neg hj] at k1; exact k1.elim
  | _ => exact k1.elim
end
@[simp] theorem ev_Trg (f : En → Rz D) (e : En) : eTrg f e = (f e).bind trg := (rfl)
theorem trg_ok {j : Int} (h3 : 0 ≤ j) (h4 : j ≤ 1000000) : trg (.int j) = .ok (.tup (rngD 0 j.toNat)) := by
  show (if _ then _ else _) = _
  rw [if_pos ⟨by omega, by omega, by omega, by omega, by omega⟩, Int.sub_zero]
end G
namespace G
open PySem PySem.Spec PyProof.Rows L2
section
variable {X : Cx} {ca : Nat → Addr} {W : WX} {b : Bool} {a c : Expr} {fa fb : En → Rz D} {pos : Pos} {Φ : Fm}
/-- list + list, a new list -/
def lcat : D → D → Rz (List D)
  | .lst x, .lst y => if x.length + y.length ≤ sizeLine then .ok (x ++ y) else .bad
  | _, _ => .bad
def eCat (f g : En → Rz D) : En → Rz (List D) := fun e => (f e).bind fun x => (g e).bind fun y => lcat x y
theorem dl_add (ha : DE true ca W X a fa) (hb : DE true ca W X c fb) : DL ca W X (.BinOp a .Add c pos) (eCat fa fb) := by
  refine pe_imp (pe_op op_cat ha hb) fun σ H Q ⟨Γ, e, r, h⟩ => ⟨Γ, e, r, h.bind.imp fun dx H1 s1 k1 x rx => ⟨Γ, e, r.same s1, k1.bind.imp fun dy H2 s2 k2 y ry => ?_⟩⟩
  cases dx with
  | lst xs =>
    cases dy with
    | lst ys =>
      have k2 : Out ca W σ H2 (fun ds H' => ∀ p vs, H p = none → H' p = some (.lst vs) → RepL X.K (Γ.mark p X.N.length) H' ds vs → Q (.ref p) H') (if xs.length + ys.length ≤ sizeLine then .ok (xs ++ ys) else .bad) := k2
      by_cases hj : xs.length + ys.length ≤ sizeLine
      · rw [if_pos hj] at k2
        have rx2 := rx.same s2
        unfold Rep at rx2 ry
        obtain ⟨p, vs, rfl, hp, _, tx⟩ := rx2
        obtain ⟨q, us, rfl, hq, _, ty⟩ := ry
        have lx := tx.length
        have ly := ty.length
        exact ⟨p, q, vs, us, rfl, rfl, hp, hq, by omega, fun l hl => k2 _ (same_new hl) l _ ((s1.trans s2).free hl) upd_same (((tx.append ty).marked hl).same (same_new hl))⟩
      · rw [if_neg hj] at k2; exact k2.elim
    | _ => exact k2.elim
  | _ => exact k2.elim
end
@[simp] theorem ev_Cat (f g : En → Rz D) (e : En) : eCat f g e = (f e).bind fun x => (g e).bind fun y => lcat x y := (rfl)
theorem lcat_ok {x y : List D} (h : x.length + y.length ≤ 1000000) : lcat (.lst x) (.lst y) = .ok (x ++ y) := by
  show (if _ then _ else _) = _
  rw [if_pos (by rw [sizeLine_eq]; omega)]
end G
set_option Elab.async false
set_option linter.all false
set_option maxRecDepth 100000
set_option maxHeartbeats 4000000
namespace Law
open PySem PySem.Spec PyProof.Rows L2 G
def g_is_whole : En → SR := (sRet (eAnd (eIsi "int" (eVar 0)) (eAnd (eNot (eIsi "bool" (eVar 0))) (eCh leD leD (eVar 1) (eVar 0) (eVar 2)))))
def F_is_whole : List D → Rz D := fnD g_is_whole
def g_ten_to_b0 : En → SR := (sSet 1 (eMulR 10 (eVar 1)))
def g_ten_to : En → SR := (sSeq (sSet 1 (eC (.int 1)))
    (sSeq (sFor (iR1 (eVar 0)) (Pat.nm 2) g_ten_to_b0)
    (sRet (eVar 1))))
def F_ten_to : List D → Rz D := fnD g_ten_to
def g_is_book_b0 : En → SR := (sIf (cOr (cB (eBin geD (eBin ixD (eVar 3) (eBin subD (eVar 5) (eC (.int 1)))) (eBin ixD (eVar 3) (eVar 5)))) (cB (eBin gtD (eBin mulD (eVar 2) (eCall F_ten_to [(eBin ixD (eVar 3) (eVar 5))])) (eBin mulD (eVar 1) (eCall F_ten_to [(eBin ixD (eVar 3) (eBin subD (eVar 5) (eC (.int 1))))]))))) (sRet (eC (.bl false))) SR.next)
def g_is_book : En → SR := (sSeq (sIf (cOr (cNot (cB (eIsi "tuple" (eVar 0)))) (cOr (cB (eBin neD (eFn lenD [(eVar 0)]) (eC (.int 4)))) (cNot (cB (eCall F_is_whole [(eBin ixD (eVar 0) (eC (.int 0))), (eC (.int 9)), (eC (.int 9999))]))))) (sRet (eC (.bl false))) SR.next)
    (sSeq (sAsg (Pat.tp [(Pat.nm 1), (Pat.nm 2), (Pat.nm 3), (Pat.nm 4)]) (eVar 0))
    (sSeq (sIf (cOr (cNot (cB (eCall F_is_whole [(eVar 2), (eC (.int 0)), (eBin subD (eVar 1) (eC (.int 1)))]))) (cNot (cB (eCall F_is_whole [(eVar 4), (eC (.int 0)), (eC (.int 5))])))) (sRet (eC (.bl false))) SR.next)
    (sSeq (sIf (cOr (cNot (cB (eIsi "tuple" (eVar 3)))) (cNot (cB (eCh leD leD (eC (.int 1)) (eFn lenD [(eVar 3)]) (eC (.int 6)))))) (sRet (eC (.bl false))) SR.next)
    (sSeq (sIf (cNot (cB (eFn allD [(eL (eLc (iSq (eVar 3)) (Pat.nm 6) cTrue (eCall F_is_whole [(eVar 6), (eC (.int 0)), (eC (.int 14))]) [6]))]))) (sRet (eC (.bl false))) SR.next)
    (sSeq (sFor (iR2 (eC (.int 1)) (eFn lenD [(eVar 3)])) (Pat.nm 5) g_is_book_b0)
    (sRet (eC (.bl true)))))))))
def F_is_book : List D → Rz D := fnD g_is_book
def g_last_of : En → SR := (sRet (eBin subD (eFn lenD [(eBin ixD (eVar 0) (eC (.int 2)))]) (eC (.int 1))))
def F_last_of : List D → Rz D := fnD g_last_of
def g_is_state : En → SR := (sSeq (sIf (cOr (cNot (cB (eIsi "tuple" (eVar 1)))) (cOr (cB (eBin neD (eFn lenD [(eVar 1)]) (eC (.int 3)))) (cNot (cB (eCall F_is_whole [(eBin ixD (eVar 1) (eC (.int 0))), (eC (.int 0)), (eCall F_last_of [(eVar 0)])]))))) (sRet (eC (.bl false))) SR.next)
    (sSeq (sIf (cOr (cNot (cB (eCall F_is_whole [(eBin ixD (eVar 1) (eC (.int 1))), (eNeg (eC (.int 1))), (eC (.int 1))]))) (cNot (cB (eCall F_is_whole [(eBin ixD (eVar 1) (eC (.int 2))), (eC (.int 0)), (eBin ixD (eVar 0) (eC (.int 3)))])))) (sRet (eC (.bl false))) SR.next)
    (sSeq (sIf (cOr (cAnd (cB (eBin eqD (eBin ixD (eVar 1) (eC (.int 1))) (eNeg (eC (.int 1))))) (cB (eBin eqD (eBin ixD (eVar 1) (eC (.int 0))) (eC (.int 0))))) (cAnd (cB (eBin eqD (eBin ixD (eVar 1) (eC (.int 1))) (eC (.int 1)))) (cB (eBin eqD (eBin ixD (eVar 1) (eC (.int 0))) (eCall F_last_of [(eVar 0)]))))) (sRet (eC (.bl false))) SR.next)
    (sRet (eBin eqD (eBin eqD (eBin ixD (eVar 1) (eC (.int 1))) (eC (.int 0))) (eBin eqD (eBin ixD (eVar 1) (eC (.int 2))) (eC (.int 0))))))))
def F_is_state : List D → Rz D := fnD g_is_state
def g_law_cell : En → SR := (sSeq (sIf (cB (eBin ltD (eVar 1) (eFn lenD [(eVar 0)]))) (sRet (eBin ixD (eVar 0) (eVar 1))) SR.next)
    (sRet (eC (.int 0))))
def F_law_cell : List D → Rz D := fnD g_law_cell
def g_law_mix : En → SR := (sSeq (sSet 3 (eBin modD (eMulR 48271 (eVar 0)) (eVar 1)))
    (sRet (eBin modD (eBin modD (eBin mulD (eVar 3) (eBin addD (eVar 3) (eC (.int 7)))) (eVar 1)) (eVar 2))))
def F_law_mix : List D → Rz D := fnD g_law_mix
def g_law_ten_b0 : En → SR := (sSet 1 (eMulR 10 (eVar 1)))
def g_law_ten : En → SR := (sSeq (sSet 1 (eC (.int 1)))
    (sSeq (sFor (iR1 (eVar 0)) (Pat.nm 2) g_law_ten_b0)
    (sRet (eVar 1))))
def F_law_ten : List D → Rz D := fnD g_law_ten
def g_law_book_b0 : En → SR := (sApp 2 (eBin addD (eBin addD (eNl (eBin ixD (eBor 2) (eNeg (eC (.int 1))))) (eC (.int 1))) (eCall F_law_mix [(eBin addD (eVar 0) (eMulL 7 (eVar 3))), (eC (.int 9931)), (eC (.int 2))])))
def g_law_book_b1 : En → SR := (sFrz 2 (sSet 4 (eFn min2D [(eVar 4), (eBin fdivD (eVar 1) (eCall F_law_ten [(eBin subD (eBin ixD (eVar 2) (eVar 3)) (eBin ixD (eVar 2) (eBin subD (eVar 3) (eC (.int 1)))))]))])))
def g_law_book : En → SR := (sSeq (sSet 1 (eBin ixD (eTup [(eC (.int 9)), (eC (.int 19)), (eC (.int 99)), (eC (.int 199)), (eC (.int 999)), (eC (.int 1999)), (eC (.int 9999)), (eBin addD (eC (.int 10)) (eCall F_law_mix [(eVar 0), (eC (.int 9973)), (eC (.int 9000))]))]) (eCall F_law_mix [(eVar 0), (eC (.int 9967)), (eC (.int 8))])))
    (sSeq (sOwn 2 (evs [(eCall F_law_mix [(eVar 0), (eC (.int 9949)), (eC (.int 5))])]))
    (sSeq (sFor (iR1 (eCall F_law_mix [(eVar 0), (eC (.int 9941)), (eC (.int 6))])) (Pat.nm 3) g_law_book_b0)
    (sFrz 2 (sSeq (sOwn 2 (eLc (iL (eVar 2)) (Pat.nm 6) (cB (eBin ltD (eVar 6) (eC (.int 15)))) (eVar 6) [6]))
    (sSeq (sSet 4 (eBin subD (eVar 1) (eC (.int 1))))
    (sFrz 2 (sSeq (sFor (iR2 (eC (.int 1)) (eFn lenD [(eVar 2)])) (Pat.nm 3) g_law_book_b1)
    (sSeq (sSet 5 (eIf (cB (eBin eqD (eCall F_law_mix [(eVar 0), (eC (.int 9929)), (eC (.int 2))]) (eC (.int 0)))) (eVar 4) (eCall F_law_mix [(eVar 0), (eC (.int 9923)), (eBin addD (eVar 4) (eC (.int 1)))])))
    (sFrz 2 (sRet (eTup [(eVar 1), (eVar 5), (eFn tupD [(eVar 2)]), (eBin ixD (eTup [(eC (.int 0)), (eC (.int 0)), (eC (.int 1)), (eC (.int 2)), (eC (.int 5))]) (eCall F_law_mix [(eVar 0), (eC (.int 9907)), (eC (.int 5))]))]))))))))))))
def F_law_book : List D → Rz D := fnD g_law_book
def F_law_odd : Nat → List D → Rz D
  | 0 => fun _ => .bad
  | k + 1 => fnD (sSeq (sIf (cAnd (cB (eIsi "tuple" (eVar 0))) (cAnd (cB (eBin neD (eVar 0) (eTup []))) (cB (eBin gtD (eCall F_law_mix [(eVar 1), (eC (.int 9781)), (eC (.int 5))]) (eC (.int 0)))))) (sSeq (sSet 2 (eCall F_law_mix [(eVar 1), (eC (.int 9769)), (eFn lenD [(eVar 0)])]))
      (sRet (eBin addD (eBin addD (eSl (eVar 0) none (some (eVar 2))) (eTup [(eCall (F_law_odd k) [(eBin ixD (eVar 0) (eVar 2)), (eBin addD (eBin addD (eVar 1) (eMulL 31 (eVar 2))) (eC (.int 7)))])])) (eSl (eVar 0) (some (eBin addD (eVar 2) (eC (.int 1)))) none)))) SR.next)
      (sSeq (sSet 3 (eL (evs [(eC .non), (eC (.bl true)), (eC (.bl false)), (eC (.int 0)), (eC (.int 1)), (eNeg (eC (.int 1))), (eC (.int 2)), (eC (.int 7)), (eC (.int 10)), (eC (.int 1000)), (eC (.str "")), (eC (.str "a")), (eC (.str "A")), (eTup []), (eTup [(eC (.str "a"))]), (eL (evs [(eC (.int 1))]))])))
      (sSeq (sIf (cB (eIsi "tuple" (eVar 0))) (sSet 3 (eBin addD (eVar 3) (eBin repD (eL (evs [(eL (eLs (eVar 0))), (eBin addD (eVar 0) (eSl (eVar 0) (some (eNeg (eC (.int 1)))) none)), (eSl (eVar 0) none (some (eNeg (eC (.int 1))))), (eRev (eVar 0)), (eSl (eVar 0) (some (eC (.int 1))) none), (eTup [(eVar 0)])])) (eC (.int 2))))) (sIf (cB (eIsi "str" (eVar 0))) sBad (sIf (cB (eIsi "int" (eVar 0))) (sSet 3 (eBin addD (eVar 3) (eBin repD (eL (evs [(eBin addD (eVar 0) (eC (.int 1))), (eBin subD (eVar 0) (eC (.int 1))), (eBin subD (eC (.int 0)) (eVar 0)), (eTup [(eVar 0)]), (eBin addD (eVar 0) (eC (.int 2))), (eMulR 2 (eVar 0))])) (eC (.int 2))))) SR.next)))
      (sRet (eBin ixD (eVar 3) (eCall F_law_mix [(eVar 1), (eC (.int 9749)), (eFn lenD [(eVar 3)])]))))))
def g_law_whole : En → SR := (sRet (eAnd (eIsi "int" (eVar 0)) (eAnd (eNot (eIsi "bool" (eVar 0))) (eCh leD leD (eVar 1) (eVar 0) (eVar 2)))))
def F_law_whole : List D → Rz D := fnD g_law_whole
def g_law_is_book_b0 : En → SR := (sIf (cOr (cB (eBin geD (eBin ixD (eVar 1) (eVar 2)) (eBin ixD (eVar 1) (eBin addD (eVar 2) (eC (.int 1)))))) (cB (eBin gtD (eBin mulD (eBin ixD (eVar 0) (eC (.int 1))) (eCall F_law_ten [(eBin subD (eBin ixD (eVar 1) (eBin addD (eVar 2) (eC (.int 1)))) (eBin ixD (eVar 1) (eVar 2)))])) (eBin ixD (eVar 0) (eC (.int 0)))))) (sRet (eC (.bl false))) SR.next)
def g_law_is_book : En → SR := (sSeq (sIf (cOr (cNot (cB (eIsi "tuple" (eVar 0)))) (cOr (cB (eBin neD (eFn lenD [(eVar 0)]) (eC (.int 4)))) (cNot (cB (eCall F_law_whole [(eBin ixD (eVar 0) (eC (.int 0))), (eC (.int 9)), (eC (.int 9999))]))))) (sRet (eC (.bl false))) SR.next)
    (sSeq (sIf (cOr (cNot (cB (eCall F_law_whole [(eBin ixD (eVar 0) (eC (.int 1))), (eC (.int 0)), (eBin subD (eBin ixD (eVar 0) (eC (.int 0))) (eC (.int 1)))]))) (cNot (cB (eCall F_law_whole [(eBin ixD (eVar 0) (eC (.int 3))), (eC (.int 0)), (eC (.int 5))])))) (sRet (eC (.bl false))) SR.next)
    (sSeq (sSet 1 (eBin ixD (eVar 0) (eC (.int 2))))
    (sSeq (sIf (cOr (cNot (cB (eIsi "tuple" (eVar 1)))) (cNot (cB (eCh ltD ltD (eC (.int 0)) (eFn lenD [(eVar 1)]) (eC (.int 7)))))) (sRet (eC (.bl false))) SR.next)
    (sSeq (sIf (cB (eBin neD (eL (eLc (iSq (eVar 1)) (Pat.nm 3) (cNot (cB (eCall F_law_whole [(eVar 3), (eC (.int 0)), (eC (.int 14))]))) (eVar 3) [3])) (eL (evs [])))) (sRet (eC (.bl false))) SR.next)
    (sSeq (sFor (iR1 (eBin subD (eFn lenD [(eVar 1)]) (eC (.int 1)))) (Pat.nm 2) g_law_is_book_b0)
    (sRet (eC (.bl true)))))))))
def F_law_is_book : List D → Rz D := fnD g_law_is_book
def g_law_is_state : En → SR := (sSeq (sIf (cOr (cNot (cB (eIsi "tuple" (eVar 1)))) (cOr (cB (eBin neD (eFn lenD [(eVar 1)]) (eC (.int 3)))) (cNot (cB (eCall F_law_whole [(eBin ixD (eVar 1) (eC (.int 0))), (eC (.int 0)), (eBin subD (eFn lenD [(eBin ixD (eVar 0) (eC (.int 2)))]) (eC (.int 1)))]))))) (sRet (eC (.bl false))) SR.next)
    (sSeq (sIf (cOr (cNot (cB (eCall F_law_whole [(eBin ixD (eVar 1) (eC (.int 1))), (eNeg (eC (.int 1))), (eC (.int 1))]))) (cNot (cB (eCall F_law_whole [(eBin ixD (eVar 1) (eC (.int 2))), (eC (.int 0)), (eBin ixD (eVar 0) (eC (.int 3)))])))) (sRet (eC (.bl false))) SR.next)
    (sSeq (sIf (cOr (cAnd (cB (eBin eqD (eBin ixD (eVar 1) (eC (.int 1))) (eNeg (eC (.int 1))))) (cB (eBin eqD (eBin ixD (eVar 1) (eC (.int 0))) (eC (.int 0))))) (cAnd (cB (eBin eqD (eBin ixD (eVar 1) (eC (.int 1))) (eC (.int 1)))) (cB (eBin eqD (eBin ixD (eVar 1) (eC (.int 0))) (eBin subD (eFn lenD [(eBin ixD (eVar 0) (eC (.int 2)))]) (eC (.int 1))))))) (sRet (eC (.bl false))) SR.next)
    (sRet (eBin eqD (eBin eqD (eBin ixD (eVar 1) (eC (.int 1))) (eC (.int 0))) (eBin eqD (eBin ixD (eVar 1) (eC (.int 2))) (eC (.int 0))))))))
def F_law_is_state : List D → Rz D := fnD g_law_is_state
def g_law_b0 : En → SR := (sSeq (sSet 12 (eBin addD (eBin addD (eCall F_law_cell [(eVar 0), (eC (.int 9))]) (eMulL 17 (eVar 11))) (eMulL 5 (eVar 1))))
    (sSeq (sApp 8 (eCall (F_law_odd 4) [(eVar 3), (eVar 12)]))
    (sApp 10 (eCall (F_law_odd 4) [(eVar 9), (eVar 12)]))))
def g_law_b1 : En → SR := (sSeq (sPar2 14 15 (mVal (eCall F_is_book [(eVar 13)])) (mVal (eCall F_law_is_book [(eVar 13)])))
    (sIf (cOr (cAnd (cB (eBin notBD (eVar 14) (eC (.bl true)))) (cB (eVar 15))) (cAnd (cB (eBin notBD (eVar 14) (eC (.bl false)))) (cNot (cB (eVar 15))))) (sRet (eC (.bl false))) SR.next))
def g_law_b2 : En → SR := (sSeq (sPar2 14 15 (mVal (eCall F_is_state [(eVar 3), (eVar 13)])) (mVal (eCall F_law_is_state [(eVar 3), (eVar 13)])))
    (sIf (cOr (cAnd (cB (eBin notBD (eVar 14) (eC (.bl true)))) (cB (eVar 15))) (cAnd (cB (eBin notBD (eVar 14) (eC (.bl false)))) (cNot (cB (eVar 15))))) (sRet (eC (.bl false))) SR.next))
def g_law_b3 : En → SR := (sSeq (sSet 2 (eBin addD (eCall F_law_cell [(eVar 0), (eModC 9 (eVar 1))]) (eMulL 31 (eVar 1))))
    (sSeq (sSet 3 (eCall F_law_book [(eVar 2)]))
    (sSeq (sAsg (Pat.tp [(Pat.nm 4), (Pat.nm 5), (Pat.nm 6), (Pat.nm 7)]) (eVar 3))
    (sSeq (sOwn 8 (evs [(eVar 3), (eL (eLs (eVar 3))), (eSl (eVar 3) none (some (eC (.int 3)))), (eC .non)]))
    (sFrz 8 (sSeq (sOwn 8 (eCat (eVar 8) (eL (evs [(eTup []), (eTup [(eVar 4), (eBin addD (eVar 5) (eC (.int 1))), (eVar 6), (eVar 7)]), (eTup [(eVar 4), (eVar 4), (eVar 6), (eVar 7)]), (eTup [(eVar 4), (eNeg (eC (.int 1))), (eVar 6), (eVar 7)])]))))
    (sFrz 8 (sSeq (sOwn 8 (eCat (eVar 8) (eL (evs [(eTup [(eVar 4), (eC (.int 0)), (eTup [(eC (.int 0)), (eC (.int 1)), (eC (.int 2)), (eC (.int 3)), (eC (.int 4)), (eC (.int 5))]), (eVar 7)]), (eTup [(eVar 4), (eC (.int 0)), (eTup [(eC (.int 0)), (eC (.int 1)), (eC (.int 2)), (eC (.int 3)), (eC (.int 4)), (eC (.int 5)), (eC (.int 6))]), (eVar 7)])]))))
    (sFrz 8 (sSeq (sOwn 8 (eCat (eVar 8) (eL (evs [(eTup [(eC (.int 8)), (eC (.int 0)), (eTup [(eC (.int 0))]), (eC (.int 0))]), (eTup [(eC (.int 10000)), (eC (.int 0)), (eTup [(eC (.int 0))]), (eC (.int 0))])]))))
    (sFrz 8 (sSeq (sOwn 8 (eCat (eVar 8) (eL (evs [(eTup [(eVar 4), (eC (.int 0)), (eTup [(eC (.int 14))]), (eC (.int 6))]), (eTup [(eVar 4), (eC (.int 0)), (eTup [(eC (.int 15))]), (eC (.int 5))]), (eTup [(eVar 4), (eC (.int 0)), (eTup [(eC (.int 14))]), (eC (.int 5))])]))))
    (sFrz 8 (sSeq (sOwn 8 (eCat (eVar 8) (eL (evs [(eTup [(eVar 4), (eC (.int 0)), (eTup [(eC (.int 3)), (eC (.int 3))]), (eC (.int 0))]), (eTup [(eVar 4), (eC (.int 0)), (eTup []), (eC (.int 0))])]))))
    (sSeq (sSet 9 (eTup [(eCall F_law_mix [(eVar 2), (eC (.int 9833)), (eFn lenD [(eVar 6)])]), (eBin subD (eCall F_law_mix [(eVar 2), (eC (.int 9829)), (eC (.int 3))]) (eC (.int 1))), (eCall F_law_mix [(eVar 2), (eC (.int 9817)), (eBin addD (eVar 7) (eC (.int 1)))])]))
    (sSeq (sOwn 10 (evs [(eVar 9), (eTup [(eC (.int 0)), (eC (.int 0)), (eC (.int 0))]), (eTup [(eC (.int 0)), (eNeg (eC (.int 1))), (eC (.int 1))]), (eTup [(eBin subD (eFn lenD [(eVar 6)]) (eC (.int 1))), (eC (.int 1)), (eC (.int 1))])]))
    (sFrz 10 (sSeq (sOwn 10 (eCat (eVar 10) (eL (evs [(eTup [(eFn lenD [(eVar 6)]), (eC (.int 0)), (eC (.int 0))]), (eTup [(eC (.int 0)), (eC (.int 0)), (eC (.int 1))]), (eTup [(eC (.int 0)), (eC (.int 1)), (eC (.int 0))]), (eL (evs [(eC (.int 0)), (eC (.int 0)), (eC (.int 0))]))]))))
    (sSeq (sFor (iR1 (eC (.int 30))) (Pat.nm 11) g_law_b0)
    (sFrz 8 (sSeq (sFor (iL (eVar 8)) (Pat.nm 13) g_law_b1)
    (sFrz 10 (sFor (iL (eVar 10)) (Pat.nm 13) g_law_b2)))))))))))))))))))))))
def g_law : En → SR := (sSeq (sFor (iR1 (eC (.int 10))) (Pat.nm 1) g_law_b3)
    (sSeq (sIf (cOr (cB (eBin notBD (eCall F_is_book [(eTup [(eC (.int 990)), (eC (.int 99)), (eTup [(eC (.int 0)), (eC (.int 1))]), (eC (.int 0))])]) (eC (.bl true)))) (cB (eBin notBD (eCall F_is_book [(eTup [(eC (.int 990)), (eC (.int 9)), (eTup [(eC (.int 0)), (eC (.int 2))]), (eC (.int 0))])]) (eC (.bl true))))) (sRet (eC (.bl false))) SR.next)
    (sRet (eAnd (eBin isBD (eCall F_is_book [(eTup [(eC (.int 1999)), (eC (.int 199)), (eTup [(eC (.int 3)), (eC (.int 4))]), (eC (.int 2))])]) (eC (.bl true))) (eBin isBD (eCall F_is_book [(eTup [(eC (.int 1999)), (eC (.int 200)), (eTup [(eC (.int 3)), (eC (.int 4))]), (eC (.int 2))])]) (eC (.bl false)))))))
def F_law : List D → Rz D := fnD g_law
end Law
set_option Elab.async false
set_option linter.all false
set_option maxRecDepth 100000
set_option maxHeartbeats 4000000
namespace Law
open PySem G L2
/-! ### ten to a power -/
theorem ten_to_loop : ∀ (n : Nat) (lo a : Int) (e : En), e.v 1 = .val (.int a) → ∃ e', forGo (.nm 2) g_ten_to_b0 (rngD lo n) e = .next e' ∧ e'.v 1 = .val (.int (a * 10 ^ n))
  | 0, lo, a, e, h => ⟨e, rfl, by simpa using h⟩
  | n + 1, lo, a, e, h => by
    obtain ⟨e', h1, h2⟩ := ten_to_loop n (lo + 1) (a * 10) ((e.set 2 (.val (.int lo))).set 1 (.val (.int (a * 10)))) (by simp)
    refine ⟨e', ?_, ?_⟩
    · rw [rngD, ev_forCons]
      simp [g_ten_to_b0, h]
      exact h1
    · rw [h2, Int.pow_succ]
      congr 2
      rw [Int.mul_assoc, Int.mul_comm 10]
theorem F_ten_to_eq {p : Int} (h : 0 ≤ p) (h2 : p ≤ 1000) : F_ten_to [.int p] = .ok (.int (10 ^ p.toNat)) := by
  unfold F_ten_to fnD g_ten_to
  obtain ⟨e', h3, h4⟩ := ten_to_loop p.toNat 0 1 ((En.st [.int p]).set 1 (.val (.int 1))) (by simp)
  simp [rg1_ok (show -(2 ^ 62) ≤ p by omega) (show p < 2 ^ 62 by omega), h3, h4]
theorem law_ten_loop : ∀ (n : Nat) (lo a : Int) (e : En), e.v 1 = .val (.int a) → ∃ e', forGo (.nm 2) g_law_ten_b0 (rngD lo n) e = .next e' ∧ e'.v 1 = .val (.int (a * 10 ^ n))
  | 0, lo, a, e, h => ⟨e, rfl, by simpa using h⟩
  | n + 1, lo, a, e, h => by
    obtain ⟨e', h1, h2⟩ := law_ten_loop n (lo + 1) (a * 10) ((e.set 2 (.val (.int lo))).set 1 (.val (.int (a * 10)))) (by simp)
    refine ⟨e', ?_, ?_⟩
    · rw [rngD, ev_forCons]
      simp [g_law_ten_b0, h]
      exact h1
    · rw [h2, Int.pow_succ]
      congr 2
      rw [Int.mul_assoc, Int.mul_comm 10]
theorem F_law_ten_eq {p : Int} (h : 0 ≤ p) (h2 : p ≤ 1000) : F_law_ten [.int p] = .ok (.int (10 ^ p.toNat)) := by
  unfold F_law_ten fnD g_law_ten
  obtain ⟨e', h3, h4⟩ := law_ten_loop p.toNat 0 1 ((En.st [.int p]).set 1 (.val (.int 1))) (by simp)
  simp [rg1_ok (show -(2 ^ 62) ≤ p by omega) (show p < 2 ^ 62 by omega), h3, h4]
/-! ### draws -/
def mixM (c p m : Int) : Int := (c * 48271 % p) * (c * 48271 % p + 7) % p % m
theorem mixM_lo {c p m : Int} (h : 0 < m) : 0 ≤ mixM c p m := Int.emod_nonneg _ (by omega)
theorem mixM_hi {c p m : Int} (h : 0 < m) : mixM c p m < m := Int.emod_lt_of_pos _ h
theorem F_law_mix_eq {c p m : Int} (hp : 0 < p) (hp2 : p ≤ 10000) (hm : 0 < m) : F_law_mix [.int c, .int p, .int m] = .ok (.int (mixM c p m)) := by
  have h1 : 0 ≤ c * 48271 % p := Int.emod_nonneg _ (by omega)
  have h2 : c * 48271 % p < p := Int.emod_lt_of_pos _ hp
  unfold F_law_mix fnD g_law_mix
  simp [mod_ok hp, mod_ok hm, mul_ok (i := c * 48271 % p) (j := c * 48271 % p + 7) (.inl ⟨by omega, by omega⟩), mixM]
theorem cell_ok (ns : List Int) {k : Int} (h : 0 ≤ k) : ∃ c, F_law_cell [.scr ns, .int k] = .ok (.int c) := by
  unfold F_law_cell fnD g_law_cell
  by_cases hk : k < ns.length
  · refine ⟨ns[k.toNat]'(by omega), ?_⟩
    simp [hk, at_nat ns k h hk]
  · refine ⟨0, ?_⟩
    simp [hk]
/-! ### books -/
structure Book where
  full : Int
  low : Int
  pw : List Int
  wait : Int
def Book.d (b : Book) : D := .tup [.int b.full, .int b.low, .tup (b.pw.map D.int), .int b.wait]
def gI (l : List Int) (i : Nat) : Int := (l[i]?).getD 0
def Book.p (b : Book) (i : Nat) : Int := gI b.pw i
def Book.st (b : Book) (i : Nat) : Int := 10 ^ (b.p i).toNat
structure Book.Ok (b : Book) : Prop where
  f1 : 9 ≤ b.full
  f2 : b.full ≤ 9999
  l1 : 0 ≤ b.low
  l2 : b.low < b.full
  n1 : 1 ≤ b.pw.length
  n2 : b.pw.length ≤ 6
  pr : ∀ p ∈ b.pw, 0 ≤ p ∧ p ≤ 14
  ri : ∀ i, i + 1 < b.pw.length → b.p i < b.p (i + 1)
  ch : ∀ i, i + 1 < b.pw.length → b.low * b.st (i + 1) ≤ b.full * b.st i
  w1 : 0 ≤ b.wait
  w2 : b.wait ≤ 5
theorem gI_eq {l : List Int} {i : Nat} (h : i < l.length) : gI l i = l[i] := by
  unfold gI
  rw [List.getElem?_eq_getElem h]
  rfl
theorem getD_mem {l : List Int} {i : Nat} (h : i < l.length) : gI l i ∈ l := by
  rw [gI_eq h]
  exact List.getElem_mem h
theorem Book.Ok.p0 {b : Book} (h : b.Ok) {i : Nat} (hi : i < b.pw.length) : 0 ≤ b.p i ∧ b.p i ≤ 14 := h.pr _ (getD_mem hi)
theorem pow_pos (n : Nat) : (0 : Int) < 10 ^ n := Int.pow_pos (by decide)
theorem pow_mono {m n : Nat} (h : m ≤ n) : (10 : Int) ^ m ≤ 10 ^ n := by
  obtain ⟨k, rfl⟩ := Nat.exists_eq_add_of_le h
  rw [Int.pow_add]
  have h1 := pow_pos m
  have h2 := pow_pos k
  have h3 := Int.mul_le_mul_of_nonneg_left (show (1 : Int) ≤ 10 ^ k by omega) (show (0 : Int) ≤ 10 ^ m by omega)
  omega
theorem Book.st_pos (b : Book) (i : Nat) : 0 < b.st i := pow_pos _
theorem Book.Ok.st_le {b : Book} (h : b.Ok) {i : Nat} (hi : i < b.pw.length) : b.st i ≤ 100000000000000 := by
  have := pow_mono (show (b.p i).toNat ≤ 14 by have := (h.p0 hi).2; omega)
  unfold Book.st
  exact Int.le_trans this (by decide)
theorem at_map_int {l : List Int} {i : Int} (h : 0 ≤ i) (h2 : i < l.length) : atI (l.map D.int) i = some (.int (gI l i.toNat)) := by
  rw [atI_map, at_nat l i h h2, gI_eq (by omega)]
  rfl
theorem at_map_last {l : List Int} (a : Int) : atI ((l ++ [a]).map D.int) (-1) = some (.int a) := by
  rw [List.map_append]
  exact atI_last _ _
theorem bd0 (b : Book) : ixD b.d (.int 0) = some (.int b.full) := at0 _ _
theorem bd1 (b : Book) : ixD b.d (.int 1) = some (.int b.low) := at1 _ _ _
theorem bd2 (b : Book) : ixD b.d (.int 2) = some (.tup (b.pw.map D.int)) := at2 _ _ _ _
theorem bd3 (b : Book) : ixD b.d (.int 3) = some (.int b.wait) := at3 _ _ _ _ _
/-! ### _law_book -/
def Gaps (l : List Int) : Prop := ∀ i, i + 1 < l.length → gI l (i + 1) = gI l i + 1 ∨ gI l (i + 1) = gI l i + 2
theorem gI_app_l {l m : List Int} {i : Nat} (h : i < l.length) : gI (l ++ m) i = gI l i := by
  unfold gI
  rw [List.getElem?_append_left h]
theorem gI_app_r (l : List Int) (a : Int) : gI (l ++ [a]) l.length = a := by
  unfold gI
  rw [List.getElem?_append_right (Nat.le_refl _)]
  simp
theorem Gaps.app {l : List Int} {a b : Int} (h : Gaps (l ++ [a])) (hb : b = a + 1 ∨ b = a + 2) : Gaps (l ++ [a] ++ [b]) := fun i hi => by
  have hl : (l ++ [a]).length = l.length + 1 := by simp
  have hl2 : (l ++ [a] ++ [b]).length = l.length + 2 := by simp
  rw [hl2] at hi
  by_cases h1 : i + 1 < l.length + 1
  · rw [gI_app_l (l := l ++ [a]) (by omega), gI_app_l (l := l ++ [a]) (by omega)]
    exact h i (by omega)
  · have e : i = l.length := by omega
    subst e
    have e2 := gI_app_r (l ++ [a]) b
    rw [hl] at e2
    rw [e2, gI_app_l (l := l ++ [a]) (by omega), gI_app_r]
    exact hb
theorem Gaps.bound {l : List Int} (h : Gaps l) : ∀ i, i < l.length → gI l 0 + i ≤ gI l i ∧ gI l i ≤ gI l 0 + 2 * i
  | 0, _ => by constructor <;> omega
  | i + 1, hi => by
    have ih := Gaps.bound h i (by omega)
    have := h i hi
    push_cast
    omega
theorem law_book_loop0 (c : Int) : ∀ (n : Nat) (lo : Int) (e : En) (l : List Int) (a : Int), e.v 0 = .val (.int c) → e.v 2 = .own ((l ++ [a]).map D.int) → Gaps (l ++ [a]) → l.length + n ≤ 1000 →
    ∃ e' l' a', forGo (.nm 3) g_law_book_b0 (rngD lo n) e = .next e' ∧ e'.v 2 = .own ((l' ++ [a']).map D.int) ∧ Gaps (l' ++ [a']) ∧ l'.length = l.length + n ∧ gI (l' ++ [a']) 0 = gI (l ++ [a]) 0 ∧ ∀ j, j ≠ 2 → j ≠ 3 → e'.v j = e.v j
  | 0, lo, e, l, a, h0, h2, hg, hl => ⟨e, l, a, rfl, h2, hg, rfl, rfl, fun _ _ _ => rfl⟩
  | n + 1, lo, e, l, a, h0, h2, hg, hl => by
    have hm := F_law_mix_eq (c := c + 7 * lo) (p := 9931) (m := 2) (by decide) (by decide) (by decide)
    have m1 := mixM_lo (c := c + 7 * lo) (p := 9931) (m := 2) (by decide)
    have m2 := mixM_hi (c := c + 7 * lo) (p := 9931) (m := 2) (by decide)
    obtain ⟨e', l', a', h3, h4, h5, h6, h7, h8⟩ := law_book_loop0 c n (lo + 1) ((e.set 3 (.val (.int lo))).set 2 (.own ((l ++ [a] ++ [a + 1 + mixM (c + 7 * lo) 9931 2]).map D.int))) (l ++ [a]) (a + 1 + mixM (c + 7 * lo) 9931 2)
      (by simp [h0]) (by simp) (hg.app (by omega)) (by simp; omega)
    refine ⟨e', l', a', ?_, h4, h5, ?_, ?_, fun j j2 j3 => ?_⟩
    · have hlast : atI ((l ++ [a]).map D.int) (-1) = some (.int a) := at_map_last a
      have hs : ((l ++ [a]).map D.int).length < sizeLine := by
        have : (1002 : Nat) < sizeLine := by decide
        rw [List.length_map, List.length_append, List.length_singleton]
        omega
      rw [rngD, forNm_step (e2 := (e.set 3 (.val (.int lo))).set 2 (.own ((l ++ [a] ++ [a + 1 + mixM (c + 7 * lo) 9931 2]).map D.int)))]
      · exact h3
      · generalize hL : l ++ [a] = L at *
        rw [List.length_map] at hs
        simp [g_law_book_b0, h0, h2, hlast, hm, hs]
    · rw [h6]; simp; omega
    · rw [h7, gI_app_l (by simp)]
    · rw [h8 j j2 j3]; simp [j2, j3]
theorem law_book_loop1 (full : Int) (l : List Int) (hg : Gaps l) : ∀ (n : Nat) (k : Nat) (e : En) (h : Int), e.v 1 = .val (.int full) → e.v 2 = .val (.lst (l.map D.int)) → e.v 4 = .val (.int h) → 1 ≤ k → k + n ≤ l.length → l.length ≤ 1000 → 0 ≤ h → 0 ≤ full →
    ∃ e' h', forGo (.nm 3) g_law_book_b1 (rngD k n) e = .next e' ∧ e'.v 4 = .val (.int h') ∧ 0 ≤ h' ∧ h' ≤ h ∧ (∀ i : Nat, k ≤ i → i < k + n → h' ≤ full / 10 ^ (gI l i - gI l (i - 1)).toNat) ∧ ∀ j, j ≠ 3 → j ≠ 4 → e'.v j = e.v j
  | 0, k, e, h, h1, h2, h4, hk, hkn, hl, hh, hf => ⟨e, h, rfl, h4, hh, Int.le_refl _, fun i a b => by omega, fun _ _ _ => rfl⟩
  | n + 1, k, e, h, h1, h2, h4, hk, hkn, hl, hh, hf => by
    have g1 := hg (k - 1) (by omega)
    rw [show k - 1 + 1 = k by omega] at g1
    have ht := F_law_ten_eq (p := gI l k - gI l (k - 1)) (by omega) (by omega)
    have i1 := at_map_int (l := l) (i := (k : Int)) (by omega) (by omega)
    have i2 := at_map_int (l := l) (i := (k : Int) - 1) (by omega) (by omega)
    have e1 : ((k : Int) - 1).toNat = k - 1 := by omega
    rw [e1] at i2
    rw [Int.toNat_natCast] at i1
    have hpos : (0 : Int) < 10 ^ (gI l k - gI l (k - 1)).toNat := pow_pos _
    have hle : (10 : Int) ^ (gI l k - gI l (k - 1)).toNat ≤ 10 ^ 2 := pow_mono (by omega)
    have hd := fdiv_ok (i := full) hpos (by omega)
    have hq : 0 ≤ full / 10 ^ (gI l k - gI l (k - 1)).toNat := Int.ediv_nonneg hf (by omega)
    obtain ⟨e', h', h5, h6, h7, h8, h9, h10⟩ := law_book_loop1 full l hg n (k + 1) ((e.set 3 (.val (.int k))).set 4 (.val (.int (if full / 10 ^ (gI l k - gI l (k - 1)).toNat < h then full / 10 ^ (gI l k - gI l (k - 1)).toNat else h)))) _
      (by simp [h1]) (by simp [h2]) (by simp; rfl) (by omega) (by omega) hl (by split <;> omega) hf
    refine ⟨e', h', ?_, h6, h7, ?_, fun i a b => ?_, fun j j3 j4 => ?_⟩
    · have fz : ((e.set 3 (.val (.int k))).frz 2) = e.set 3 (.val (.int k)) := frz_val (by simp [h2])
      have e2 : ((k : Int) + 1) = ((k + 1 : Nat) : Int) := by omega
      rw [rngD, forNm_step (e2 := (e.set 3 (.val (.int k))).set 4 (.val (.int (if full / 10 ^ (gI l k - gI l (k - 1)).toNat < h then full / 10 ^ (gI l k - gI l (k - 1)).toNat else h)))), e2]
      · exact h5
      · simp [g_law_book_b1, fz, h1, h2, h4, i1, i2, ht, hd]
    · split at h8 <;> omega
    · by_cases hi : i = k
      · subst hi
        split at h8 <;> omega
      · exact h9 i (by omega) (by omega)
    · rw [h10 j j3 j4]; simp [j3, j4]
theorem filter_all {l : List Int} (h : ∀ x ∈ l, x < 15) (e : En) (h6 : True) : lcGo (.nm 6) (cB (eBin ltD (eVar 6) (eC (.int 15)))) (eVar 6) e (l.map D.int) = .ok (l.map D.int) := by
  induction l with
  | nil => rfl
  | cons x l ih =>
    have hx := h x List.mem_cons_self
    rw [List.map_cons, lcGo]
    simp [hx, ih fun y hy => h y (List.mem_cons_of_mem _ hy)]
theorem pick8 {a0 a1 a2 a3 a4 a5 a6 a7 : Int} {P : Int → Prop} {i : Int} (h : 0 ≤ i) (h2 : i < 8) (p0 : P a0) (p1 : P a1) (p2 : P a2) (p3 : P a3) (p4 : P a4) (p5 : P a5) (p6 : P a6) (p7 : P a7) : ∃ x, atI [D.int a0, .int a1, .int a2, .int a3, .int a4, .int a5, .int a6, .int a7] i = some (.int x) ∧ P x := by
  have : i = 0 ∨ i = 1 ∨ i = 2 ∨ i = 3 ∨ i = 4 ∨ i = 5 ∨ i = 6 ∨ i = 7 := by omega
  rcases this with rfl | rfl | rfl | rfl | rfl | rfl | rfl | rfl
  · exact ⟨a0, rfl, p0⟩
  · exact ⟨a1, rfl, p1⟩
  · exact ⟨a2, rfl, p2⟩
  · exact ⟨a3, rfl, p3⟩
  · exact ⟨a4, rfl, p4⟩
  · exact ⟨a5, rfl, p5⟩
  · exact ⟨a6, rfl, p6⟩
  · exact ⟨a7, rfl, p7⟩
theorem pick5 {a0 a1 a2 a3 a4 : Int} {P : Int → Prop} {i : Int} (h : 0 ≤ i) (h2 : i < 5) (p0 : P a0) (p1 : P a1) (p2 : P a2) (p3 : P a3) (p4 : P a4) : ∃ x, atI [D.int a0, .int a1, .int a2, .int a3, .int a4] i = some (.int x) ∧ P x := by
  have : i = 0 ∨ i = 1 ∨ i = 2 ∨ i = 3 ∨ i = 4 := by omega
  rcases this with rfl | rfl | rfl | rfl | rfl
  · exact ⟨a0, rfl, p0⟩
  · exact ⟨a1, rfl, p1⟩
  · exact ⟨a2, rfl, p2⟩
  · exact ⟨a3, rfl, p3⟩
  · exact ⟨a4, rfl, p4⟩
theorem pick4 {a0 a1 a2 a3 : Int} {P : Int → Prop} {i : Int} (h : 0 ≤ i) (h2 : i < 4) (p0 : P a0) (p1 : P a1) (p2 : P a2) (p3 : P a3) : ∃ x, atI [D.int a0, .int a1, .int a2, .int a3] i = some (.int x) ∧ P x := by
  have : i = 0 ∨ i = 1 ∨ i = 2 ∨ i = 3 := by omega
  rcases this with rfl | rfl | rfl | rfl
  · exact ⟨a0, rfl, p0⟩
  · exact ⟨a1, rfl, p1⟩
  · exact ⟨a2, rfl, p2⟩
  · exact ⟨a3, rfl, p3⟩
theorem law_book_ok (c : Int) : ∃ b : Book, b.Ok ∧ F_law_book [.int c] = .ok b.d := by
  have mx : ∀ p m, 0 < p → p ≤ 10000 → 0 < m → F_law_mix [.int c, .int p, .int m] = .ok (.int (mixM c p m)) := fun p m h1 h2 h3 => F_law_mix_eq h1 h2 h3
  have lo : ∀ p m, 0 < m → 0 ≤ mixM c p m := fun p m h => mixM_lo h
  have hi : ∀ p m, 0 < m → mixM c p m < m := fun p m h => mixM_hi h
  obtain ⟨full, hfull, f1, f2⟩ := pick8 (P := fun x => 9 ≤ x ∧ x ≤ 9999) (a0 := 9) (a1 := 19) (a2 := 99) (a3 := 199) (a4 := 999) (a5 := 1999) (a6 := 9999) (a7 := 10 + mixM c 9973 9000) (lo 9967 8 (by decide)) (hi 9967 8 (by decide)) (by decide) (by decide) (by decide) (by decide) (by decide) (by decide) (by decide)
    (by have := lo 9973 9000 (by decide); have := hi 9973 9000 (by decide); omega)
  obtain ⟨wait, hwait, w1, w2⟩ := pick5 (P := fun x => 0 ≤ x ∧ x ≤ 5) (a0 := 0) (a1 := 0) (a2 := 1) (a3 := 2) (a4 := 5) (lo 9907 5 (by decide)) (hi 9907 5 (by decide)) (by decide) (by decide) (by decide) (by decide) (by decide)
  have a0 := lo 9949 5 (by decide)
  have a1 := hi 9949 5 (by decide)
  have n0 := lo 9941 6 (by decide)
  have n1 := hi 9941 6 (by decide)
  obtain ⟨e1, l, a, r1, r2, r3, r4, r5, r6⟩ := law_book_loop0 c (mixM c 9941 6).toNat 0 (((En.st [.int c]).set 1 (.val (.int full))).set 2 (.own [.int (mixM c 9949 5)])) [] (mixM c 9949 5) (by simp) (by simp) (fun i hi => by simp at hi) (by simp; omega)
  have hl : (l ++ [a]).length ≤ 6 := by simp at r4 ⊢; omega
  have bd := r3.bound
  rw [r5] at bd
  have bnd : ∀ x ∈ l ++ [a], 0 ≤ x ∧ x ≤ 14 := fun x hx => by
    obtain ⟨i, hi', rfl⟩ := List.getElem_of_mem hx
    have := bd i hi'
    rw [gI_eq hi'] at this
    have z : gI ([] ++ [mixM c 9949 5]) 0 = mixM c 9949 5 := rfl
    omega
  have g15 : ∀ x ∈ l ++ [a], x < 15 := fun x hx => by have := (bnd x hx).2; omega
  have hlen : ((l ++ [a]).map D.int).length = (l ++ [a]).length := List.length_map _
  generalize hq : l ++ [a] = q at *
  have qpos : 1 ≤ q.length := by rw [← hq]; simp
  obtain ⟨e2, h, s1, s2, s3, s4, s5, s6⟩ := law_book_loop1 full q r3 (q.length - 1) 1 ((((e1.set 2 (.val (.lst (q.map D.int)))).set 2 (.own (q.map D.int))).set 4 (.val (.int (full - 1)))).set 2 (.val (.lst (q.map D.int)))) (full - 1)
    (by simp [r6 1 (by decide) (by decide)]) (by simp) (by simp) (by decide) (by omega) (by omega) (by omega) (by omega)
  have low : ∃ low, eIf (cB (eBin eqD (eCall F_law_mix [(eVar 0), (eC (.int 9929)), (eC (.int 2))]) (eC (.int 0)))) (eVar 4) (eCall F_law_mix [(eVar 0), (eC (.int 9923)), (eBin addD (eVar 4) (eC (.int 1)))]) e2 = .ok (.int low) ∧ 0 ≤ low ∧ low ≤ h := by
    have z0 : e2.v 0 = .val (.int c) := by rw [s6 0 (by decide) (by decide)]; simp [r6 0 (by decide) (by decide)]
    by_cases hm : mixM c 9929 2 = 0
    · exact ⟨h, by simp [z0, s2, mx, hm], s3, Int.le_refl _⟩
    · exact ⟨mixM c 9923 (h + 1), by simp [z0, s2, mx, hm, F_law_mix_eq (c := c) (p := 9923) (m := h + 1) (by decide) (by decide) (by omega)], lo _ _ (by omega), by have := hi 9923 (h + 1) (by omega); omega⟩
  obtain ⟨low, t1, t2, t3⟩ := low
  refine ⟨⟨full, low, q, wait⟩, ⟨f1, f2, t2, by show low < full; omega, qpos, hl, bnd, fun i hi' => ?_, fun i hi' => ?_, w1, w2⟩, ?_⟩
  · have := r3 i hi'
    show gI q i < gI q (i + 1)
    omega
  · have g := r3 i hi'
    have s := s5 (i + 1) (by omega) (by have : i + 1 < q.length := hi'; omega)
    rw [Nat.add_sub_cancel] at s
    show low * 10 ^ (gI q (i + 1)).toNat ≤ full * 10 ^ (gI q i).toNat
    have b0 := (bnd _ (getD_mem (show i < q.length by have : i + 1 < q.length := hi'; omega))).1
    have e1 : (gI q (i + 1)).toNat = (gI q (i + 1) - gI q i).toNat + (gI q i).toNat := by omega
    rw [e1, Int.pow_add, ← Int.mul_assoc]
    refine Int.mul_le_mul_of_nonneg_right ?_ (Int.le_of_lt (pow_pos _))
    have d1 : low ≤ full / 10 ^ (gI q (i + 1) - gI q i).toNat := by omega
    have d2 := Int.ediv_mul_le full (show (10 : Int) ^ (gI q (i + 1) - gI q i).toNat ≠ 0 from Int.ne_of_gt (pow_pos _))
    have d3 := Int.mul_le_mul_of_nonneg_right d1 (Int.le_of_lt (pow_pos (gI q (i + 1) - gI q i).toNat))
    omega
  · have z1 : rg1 (.int (mixM c 9941 6)) = .ok (rngD 0 (mixM c 9941 6).toNat) := rg1_ok (by omega) (by omega)
    have fz1 : e1.frz 2 = e1.set 2 (.val (.lst (q.map D.int))) := frz_own r2
    have sz : q.length ≤ 1000000 := by omega
    have z2 : rg2 (.int 1) (.int (q.length : Int)) = .ok (rngD 1 (q.length - 1)) := by
      rw [rg2_ok (by omega) (by omega) (by omega) (by omega)]
      congr 2
      omega
    refine fnD_of (Rt.set (x := .int full) (by simp [mx, hfull]) (Rt.own (x := [.int (mixM c 9949 5)]) (by simp [mx]) (Rt.for (by simp [mx]; exact z1) r1 (Rt.frz ?_))))
    rw [fz1]
    refine Rt.own (x := q.map D.int) ((lc_ok (by simp) (by rw [List.length_map]; exact sz)).trans (filter_all g15 _ trivial)) (Rt.set (x := .int (full - 1)) (by simp [r6 1 (by decide) (by decide)]) (Rt.frz ?_))
    rw [frz_own (ds := q.map D.int) (by simp)]
    refine Rt.for (ds := rngD 1 (q.length - 1)) (e1 := e2) (by simp [z2]) s1 (Rt.set t1 (Rt.frz ?_))
    have y0 : e2.v 0 = .val (.int c) := by rw [s6 0 (by decide) (by decide)]; simp [r6 0 (by decide) (by decide)]
    have y1 : e2.v 1 = .val (.int full) := by rw [s6 1 (by decide) (by decide)]; simp [r6 1 (by decide) (by decide)]
    have y2 : e2.v 2 = .val (.lst (q.map D.int)) := by rw [s6 2 (by decide) (by decide)]; simp
    rw [frz_val (by simp [y2])]
    exact Rt.ret (by simp [y0, y1, y2, mx, hwait, Book.d])
/-! ### equality -/
mutual
theorem eqv_refl : ∀ {k : Nat} {d : D}, okd k d = true → eqv d d = true
  | _, .non, _ => by simp [eqv]
  | _, .bl _, _ => by simp [eqv]
  | _, .int _, _ => by simp [eqv]
  | _, .str _, _ => by simp [eqv]
  | 0, .tup _, h => by simp [okd] at h
  | 0, .lst _, h => by simp [okd] at h
  | k + 1, .tup ds, h => by simp only [okd] at h; simp only [eqv]; exact eqvL_refl h
  | k + 1, .lst ds, h => by simp only [okd] at h; simp only [eqv]; exact eqvL_refl h
  | _, .scr _, h => by simp [okd] at h
  | _, .obj _, h => by simp [okd] at h
  | _, .ntup _, h => by simp [okd] at h
  | _, .adr _, h => by simp [okd] at h
  | _, .dic _ _, h => by simp [okd] at h
theorem eqvL_refl : ∀ {k : Nat} {ds : List D}, okdL k ds = true → eqvL ds ds = true
  | _, [], _ => by simp [eqvL]
  | k, d :: ds, h => by
    simp only [okdL, Bool.and_eq_true] at h
    simp only [eqvL, Bool.and_eq_true]
    exact ⟨eqv_refl h.1, eqvL_refl h.2⟩
end
theorem neT {ds : List D} (h : okdL 63 ds = true) : neD (.tup ds) (.tup ds) = some (.bl false) := by
  have h' : okd 64 (.tup ds) = true := by simp only [okd]; exact h
  show (if _ then _ else _) = _
  rw [if_pos ⟨h', h'⟩, eqv_refl h']
  rfl
theorem eqT {ds : List D} (h : okdL 63 ds = true) : eqD (.tup ds) (.tup ds) = some (.bl true) := by
  have h' : okd 64 (.tup ds) = true := by simp only [okd]; exact h
  show (if _ then _ else _) = _
  rw [if_pos ⟨h', h'⟩, eqv_refl h']
theorem neL {ds : List D} (h : okdL 63 ds = true) : neD (.lst ds) (.lst ds) = some (.bl false) := by
  have h' : okd 64 (.lst ds) = true := by simp only [okd]; exact h
  show (if _ then _ else _) = _
  rw [if_pos ⟨h', h'⟩, eqv_refl h']
  rfl
theorem eqL {ds : List D} (h : okdL 63 ds = true) : eqD (.lst ds) (.lst ds) = some (.bl true) := by
  have h' : okd 64 (.lst ds) = true := by simp only [okd]; exact h
  show (if _ then _ else _) = _
  rw [if_pos ⟨h', h'⟩, eqv_refl h']
theorem okdL_app {k : Nat} {a c : List D} : okdL k a = true → okdL k c = true → okdL k (a ++ c) = true := by
  intro h1 h2
  induction a with
  | nil => exact h2
  | cons x xs ih =>
    simp only [okdL, Bool.and_eq_true, List.cons_append] at h1 ⊢
    exact ⟨h1.1, ih h1.2⟩
theorem okdL_map {α : Type} {k : Nat} {f : α → D} (h : ∀ a, okd k (f a) = true) : ∀ l : List α, okdL k (l.map f) = true
  | [] => by simp [okdL]
  | a :: l => by simp only [List.map_cons, okdL, Bool.and_eq_true]; exact ⟨h a, okdL_map h l⟩
theorem addT {a c : List D} (h : a.length + c.length ≤ 1000000) : addD (.tup a) (.tup c) = some (.tup (a ++ c)) := by
  show (if _ then _ else _) = _
  rw [if_pos (by rw [sizeLine_eq]; omega)]
/-- a loop with a count -/
theorem forGo_ix {p : Pat} {h : En → SR} {P : Nat → En → Prop} : ∀ {ds : List D} {n : Nat} {e : En}, P n e → (∀ i d, ds[i]? = some d → ∀ e, P (n + i) e → ∃ l, p.bindD d = some l ∧ Nx (h (e.sets l)) (P (n + i + 1))) → ∃ e', forGo p h ds e = .next e' ∧ P (n + ds.length) e'
  | [], n, e, h0, _ => ⟨e, rfl, h0⟩
  | d :: ds, n, e, h0, hb => by
    obtain ⟨l, hl, e1, he, h1⟩ := hb 0 d rfl e h0
    obtain ⟨e2, h2, h3⟩ := forGo_ix (ds := ds) (n := n + 1) h1 fun i d hd e he => by
      have e3 : n + 1 + i = n + (i + 1) := by omega
      rw [e3] at he ⊢
      exact hb (i + 1) d (by simpa using hd) e he
    refine ⟨e2, ?_, by rw [List.length_cons]; rw [show n + (ds.length + 1) = n + 1 + ds.length by omega]; exact h3⟩
    rw [ev_forCons, hl, onO_some]
    rcases he with he | he <;> rw [he] <;> exact h2
theorem Nx_forIx {f : En → Rz (List D)} {p : Pat} {b h : En → SR} {e : En} {ds : List D} {Q : En → Prop} (P : Nat → En → Prop) (h1 : f e = .ok ds) (h0 : P 0 e) (hb : ∀ i d, ds[i]? = some d → ∀ e, P i e → ∃ l, p.bindD d = some l ∧ Nx (b (e.sets l)) (P (i + 1))) (h2 : ∀ e, P ds.length e → Nx (h e) Q) : Nx (sSeq (sFor f p b) h e) Q := by
  obtain ⟨e', h3, h4⟩ := forGo_ix (n := 0) h0 fun i d hd e he => by
    rw [Nat.zero_add] at he ⊢
    exact hb i d hd e he
  rw [Nat.zero_add] at h4
  exact .seq (by unfold sFor; rw [h1]; exact h3) (h2 e' h4)
theorem Rt_forIx {f : En → Rz (List D)} {p : Pat} {b h : En → SR} {e : En} {ds : List D} {q : D} (P : Nat → En → Prop) (h1 : f e = .ok ds) (h0 : P 0 e) (hb : ∀ i d, ds[i]? = some d → ∀ e, P i e → ∃ l, p.bindD d = some l ∧ Nx (b (e.sets l)) (P (i + 1))) (h2 : ∀ e, P ds.length e → Rt (h e) q) : Rt (sSeq (sFor f p b) h e) q := by
  obtain ⟨e', h3, h4⟩ := forGo_ix (n := 0) h0 fun i d hd e he => by
    rw [Nat.zero_add] at he ⊢
    exact hb i d hd e he
  rw [Nat.zero_add] at h4
  exact .seq (by unfold sFor; rw [h1]; exact h3) (h2 e' h4)
/-- a comprehension that gives each item's own -/
theorem lc_each {α : Type} {x : α → D} {y : α → D} {p : Pat} {f : En → Rz D} {e : En} : ∀ (l : List α), (∀ a ∈ l, ∃ m, p.bindD (x a) = some m ∧ f (e.sets m) = .ok (y a)) → lcGo p cTrue f e (l.map x) = .ok (l.map y)
  | [], _ => rfl
  | a :: l, h => by
    obtain ⟨m, h1, h2⟩ := h a List.mem_cons_self
    have ih := lc_each l fun a ha => h a (List.mem_cons_of_mem _ ha)
    rw [List.map_cons, List.map_cons, lcGo, h1]
    simp only [ev_cTrue, h2, ih, Rz.bind_ok]
theorem Nx_frzV {i : Nat} {g : En → SR} {e : En} {d : D} {P : En → Prop} (h : e.v i = .val d) (k : Nx (g e) P) : Nx (sFrz i g e) P := by
  have : e.frz i = e := frz_val (by rw [h]; exact fun _ z => nomatch z)
  unfold sFrz
  rw [this]
  exact k
theorem Nx_frzO {i : Nat} {g : En → SR} {e : En} {ds : List D} {P : En → Prop} (h : e.v i = .own ds) (k : Nx (g (e.set i (.val (.lst ds)))) P) : Nx (sFrz i g e) P := by
  unfold sFrz
  rw [frz_own h]
  exact k
theorem Rt_frzO {i : Nat} {g : En → SR} {e : En} {ds : List D} {q : D} (h : e.v i = .own ds) (k : Rt (g (e.set i (.val (.lst ds)))) q) : Rt (sFrz i g e) q := by
  unfold sFrz
  rw [frz_own h]
  exact k
theorem Rt_frzV {i : Nat} {g : En → SR} {e : En} {d q : D} (h : e.v i = .val d) (k : Rt (g e) q) : Rt (sFrz i g e) q := by
  have : e.frz i = e := frz_val (by rw [h]; exact fun _ z => nomatch z)
  unfold sFrz
  rw [this]
  exact k
theorem Nx_own {i : Nat} {f : En → Rz (List D)} {h : En → SR} {e : En} {x : List D} {P : En → Prop} (h1 : f e = .ok x) (h2 : Nx (h (e.set i (.own x))) P) : Nx (sSeq (sOwn i f) h e) P :=
  .seq (by unfold sOwn; rw [h1]; rfl) h2
theorem Nx_cont {c : En → Rz Bool} {g h : En → SR} {e : En} {P : En → Prop} (h1 : c e = .ok true) (h2 : P e) : Nx (sSeq (sIf c SR.cont g) h e) P :=
  ⟨e, .inr (by unfold sSeq sIf; rw [h1]; rfl), h2⟩
theorem Nx_forIx1 {f : En → Rz (List D)} {p : Pat} {b : En → SR} {e : En} {ds : List D} (P : Nat → En → Prop) (h1 : f e = .ok ds) (h0 : P 0 e) (hb : ∀ i d, ds[i]? = some d → ∀ e, P i e → ∃ l, p.bindD d = some l ∧ Nx (b (e.sets l)) (P (i + 1))) : Nx (sFor f p b e) (P ds.length) := by
  obtain ⟨e', h3, h4⟩ := forGo_ix (n := 0) h0 fun i d hd e he => by
    rw [Nat.zero_add] at he ⊢
    exact hb i d hd e he
  rw [Nat.zero_add] at h4
  exact ⟨e', .inl (by unfold sFor; rw [h1]; exact h3), h4⟩
theorem seq_assoc (a b c : En → SR) (e : En) : sSeq (sSeq a b) c e = sSeq a (sSeq b c) e := by
  simp only [ev_seq]
  cases a e <;> rfl
theorem Nx_assoc {a b c : En → SR} {e : En} {P : En → Prop} (h : Nx (sSeq (sSeq a b) c e) P) : Nx (sSeq a (sSeq b c) e) P := by rw [← seq_assoc]; exact h
theorem Rt_assoc {a b c : En → SR} {e : En} {d : D} (h : Rt (sSeq (sSeq a b) c e) d) : Rt (sSeq a (sSeq b c) e) d := by rw [← seq_assoc]; exact h
theorem Nx_assoc' {a b c : En → SR} {e : En} {P : En → Prop} (h : Nx (sSeq a (sSeq b c) e) P) : Nx (sSeq (sSeq a b) c e) P := by rw [seq_assoc]; exact h
/-! ### picks out of a range -/
def fil (P : Int → Bool) : Int → Nat → List Int
  | _, 0 => []
  | lo, n + 1 => if P lo = true then lo :: fil P (lo + 1) n else fil P (lo + 1) n
def irg (a : Int) : Nat → List Int
  | 0 => []
  | m + 1 => a :: irg (a + 1) m
theorem rngD_irg : ∀ (m : Nat) (a : Int), rngD a m = (irg a m).map D.int
  | 0, _ => rfl
  | m + 1, a => by rw [rngD, irg, List.map_cons, rngD_irg m]
theorem irg_len : ∀ (m : Nat) (a : Int), (irg a m).length = m
  | 0, _ => rfl
  | m + 1, a => by rw [irg, List.length_cons, irg_len m]
theorem irg_last : ∀ (m : Nat) (a : Int), irg a (m + 1) = irg a m ++ [a + m]
  | 0, a => by simp [irg]
  | m + 1, a => by
    rw [irg, irg_last m (a + 1), irg, List.cons_append]
    congr 3
    push_cast
    omega
theorem mem_fil {P : Int → Bool} {x : Int} : ∀ (n : Nat) (lo : Int), x ∈ fil P lo n ↔ lo ≤ x ∧ x < lo + n ∧ P x = true
  | 0, lo => by simp only [fil, List.not_mem_nil, false_iff]; omega
  | n + 1, lo => by
    have ih := mem_fil (P := P) (x := x) n (lo + 1)
    rw [fil]
    by_cases q : x = lo
    · subst q
      by_cases h : P x = true
      · rw [if_pos h, List.mem_cons]
        exact ⟨fun _ => ⟨by omega, by push_cast; omega, h⟩, fun _ => .inl rfl⟩
      · rw [if_neg h, ih]
        exact ⟨fun z => absurd z.2.2 h, fun z => absurd z.2.2 h⟩
    · have : (lo + 1 ≤ x ∧ x < lo + 1 + n ∧ P x = true) ↔ (lo ≤ x ∧ x < lo + ((n + 1 : Nat) : Int) ∧ P x = true) := by
        push_cast
        constructor <;> (rintro ⟨h1, h2, h3⟩; exact ⟨by omega, by omega, h3⟩)
      rw [← this, ← ih]
      by_cases h : P lo = true
      · rw [if_pos h, List.mem_cons]
        exact ⟨fun z => z.resolve_left q, .inr⟩
      · rw [if_neg h]
theorem fil_nil {P : Int → Bool} {n : Nat} {lo : Int} (h : ∀ x, lo ≤ x → x < lo + n → P x = false) : fil P lo n = [] := by
  refine List.eq_nil_iff_forall_not_mem.mpr fun x hx => ?_
  obtain ⟨h1, h2, h3⟩ := (mem_fil n lo).mp hx
  rw [h x h1 h2] at h3
  cases h3
theorem fil_run {P : Int → Bool} {lo0 : Int} (h0 : P lo0 = true) : ∀ (n : Nat) (lo : Int), lo0 < lo → (∀ x y z, lo0 ≤ x → x ≤ y → y ≤ z → z < lo + n → P x = true → P z = true → P y = true) → ∃ m, fil P lo n = irg lo m
  | 0, lo, _, _ => ⟨0, rfl⟩
  | n + 1, lo, hl, hc => by
    by_cases h : P lo = true
    · obtain ⟨m, hm⟩ := fil_run h0 n (lo + 1) (by omega) fun x y z a b c d => hc x y z a b c (by push_cast; omega)
      exact ⟨m + 1, by rw [fil, if_pos h, hm]; rfl⟩
    · refine ⟨0, fil_nil fun x h1 h2 => ?_⟩
      cases q : P x with
      | false => rfl
      | true => exact absurd (hc lo0 lo x (by omega) (by omega) h1 h2 h0 q) h
theorem fil_conv {P : Int → Bool} : ∀ (n : Nat) (lo : Int), (∀ x y z, lo ≤ x → x ≤ y → y ≤ z → z < lo + n → P x = true → P z = true → P y = true) → fil P lo n = [] ∨ ∃ a m, fil P lo n = irg a (m + 1) ∧ lo ≤ a ∧ a + m < lo + n
  | 0, lo, _ => .inl rfl
  | n + 1, lo, hc => by
    by_cases h : P lo = true
    · obtain ⟨m, hm⟩ := fil_run h n (lo + 1) (by omega) fun x y z a b c d => hc x y z a b c (by push_cast; omega)
      refine .inr ⟨lo, m, by rw [fil, if_pos h, hm]; rfl, by omega, ?_⟩
      have : lo + m ∈ fil P lo (n + 1) := by
        rw [fil, if_pos h, hm]
        have := irg_last m lo
        rw [irg] at this
        rw [this]
        simp
      have := ((mem_fil _ _).mp this).2.1
      exact this
    · rw [fil, if_neg h]
      rcases fil_conv n (lo + 1) (fun x y z a b c d => hc x y z (by omega) b c (by push_cast; omega)) with h1 | ⟨a, m, h1, h2, h3⟩
      · exact .inl h1
      · exact .inr ⟨a, m, h1, by omega, by push_cast; omega⟩
theorem fil_congr {P Q : Int → Bool} : ∀ (n : Nat) (lo : Int), (∀ x, lo ≤ x → x < lo + n → P x = Q x) → fil P lo n = fil Q lo n
  | 0, _, _ => rfl
  | n + 1, lo, h => by
    rw [fil, fil, h lo (by omega) (by push_cast; omega), fil_congr n (lo + 1) fun x h1 h2 => h x (by omega) (by push_cast; omega)]
theorem lc_fil {P : Int → Bool} {v : Nat} {c : En → Rz Bool} {f : En → Rz D} {e : En} : ∀ (n : Nat) (lo : Int), (∀ x, lo ≤ x → x < lo + n → c (e.set v (.val (.int x))) = .ok (P x) ∧ f (e.set v (.val (.int x))) = .ok (.int x)) → lcGo (.nm v) c f e (rngD lo n) = .ok ((fil P lo n).map D.int)
  | 0, _, _ => rfl
  | n + 1, lo, h => by
    have ih := lc_fil (P := P) (v := v) (c := c) (f := f) (e := e) n (lo + 1) fun x h1 h2 => h x (by omega) (by push_cast; omega)
    obtain ⟨h1, h2⟩ := h lo (by omega) (by push_cast; omega)
    rw [rngD, lcGo, ev_bnm]
    simp only [ev_sets1, ev_sets0, h1]
    rw [fil]
    cases q : P lo with
    | true => simp only [ite_true, h2, ih, Rz.bind_ok, List.map_cons]
    | false => simp only [Bool.false_eq_true, ite_false, ih]
theorem fil_len {P : Int → Bool} : ∀ (n : Nat) (lo : Int), (fil P lo n).length ≤ n
  | 0, _ => by simp [fil]
  | n + 1, lo => by
    have := fil_len (P := P) n (lo + 1)
    rw [fil]
    split
    · simp only [List.length_cons]; omega
    · omega
theorem okI (k : Nat) (l : List Int) : okdL k (l.map D.int) = true := okdL_map (fun _ => by simp [okd]) l
theorem inAny_int (x : Int) : ∀ l : List Int, inAny (.int x) (l.map D.int) = decide (x ∈ l)
  | [] => by simp [inAny]
  | y :: l => by
    have ih := inAny_int x l
    unfold inAny at ih ⊢
    rw [List.map_cons, List.any_cons, ih]
    have h1 : eqv (.int y) (.int x) = (y == x) := by simp only [eqv]
    rw [h1]
    by_cases q : x = y
    · subst q; simp
    · have q2 : (y == x) = false := beq_false_of_ne (fun z => q z.symm)
      rw [q2]
      simp [q]
theorem inT_int (x : Int) (l : List Int) : inD (.int x) (.tup (l.map D.int)) = some (.bl (decide (x ∈ l))) := by
  rw [← inAny_int]
  show (if _ then _ else _) = _
  rw [if_pos ⟨by simp [okd], by simp only [okd]; exact okI _ _⟩]
theorem ninT_int (x : Int) (l : List Int) : ninD (.int x) (.tup (l.map D.int)) = some (.bl (!decide (x ∈ l))) := by
  rw [← inAny_int]
  show (if _ then _ else _) = _
  rw [if_pos ⟨by simp [okd], by simp only [okd]; exact okI _ _⟩]
theorem mem_irg {x : Int} : ∀ (n : Nat) (lo : Int), x ∈ irg lo n → lo ≤ x ∧ x < lo + n
  | 0, _, h => by cases h
  | n + 1, lo, h => by
    rw [irg, List.mem_cons] at h
    rcases h with rfl | h
    · push_cast; omega
    · have := mem_irg n _ h
      push_cast; omega
theorem irg_get {x : Int} : ∀ (n : Nat) (lo : Int) (i : Nat), (irg lo n)[i]? = some x → i < n ∧ x = lo + i
  | 0, _, _, h => by simp [irg] at h
  | n + 1, lo, 0, h => by simp [irg] at h; omega
  | n + 1, lo, i + 1, h => by
    have h : (irg (lo + 1) n)[i]? = some x := by simpa [irg] using h
    have := irg_get n _ i h
    push_cast
    omega
theorem irg_at : ∀ (n : Nat) (lo : Int) (i : Nat), i < n → (irg lo n)[i]? = some (lo + i)
  | 0, _, _, h => by omega
  | n + 1, lo, 0, h => by simp [irg]
  | n + 1, lo, i + 1, h => by
    have := irg_at n (lo + 1) i (by omega)
    simp only [irg, List.getElem?_cons_succ, this]
    congr 1
    push_cast
    omega
mutual
theorem okd_up : ∀ {k : Nat} {d : D}, okd k d = true → okd (k + 1) d = true
  | _, .non, _ => by simp [okd]
  | _, .bl _, _ => by simp [okd]
  | _, .int _, _ => by simp [okd]
  | _, .str _, h => by simpa [okd] using h
  | 0, .tup _, h => by simp [okd] at h
  | 0, .lst _, h => by simp [okd] at h
  | k + 1, .tup ds, h => by simp only [okd] at h ⊢; exact okdL_up h
  | k + 1, .lst ds, h => by simp only [okd] at h ⊢; exact okdL_up h
  | _, .scr _, h => by simp [okd] at h
  | _, .obj _, h => by simp [okd] at h
  | _, .ntup _, h => by simp [okd] at h
  | _, .adr _, h => by simp [okd] at h
  | _, .dic _ _, h => by simp [okd] at h
theorem okdL_up : ∀ {k : Nat} {ds : List D}, okdL k ds = true → okdL (k + 1) ds = true
  | _, [], _ => by simp [okdL]
  | k, d :: ds, h => by
    simp only [okdL, Bool.and_eq_true] at h ⊢
    exact ⟨okd_up h.1, okdL_up h.2⟩
end
/-! ### is_book -/
theorem ii (i : Int) : isiG "int" (.int i) = some true := by simp [isiG]
theorem ib (i : Int) : isiG "bool" (.int i) = some false := by simp [isiG]
theorem it (ds : List D) : isiG "tuple" (.tup ds) = some true := by simp [isiG]
theorem F_is_whole_eq (x lo hi : Int) : F_is_whole [.int x, .int lo, .int hi] = .ok (.bl (decide (lo ≤ x ∧ x ≤ hi))) := by
  refine fnD_of (Rt.ret ?_)
  by_cases h1 : lo ≤ x
  · by_cases h2 : x ≤ hi
    · rw [decide_eq_true (show lo ≤ x ∧ x ≤ hi from ⟨h1, h2⟩)]
      simp only [ev_C, ev_Var, ev_Bor, ev_Nl, ev_Bin, ev_Tup, ev_L, ev_Fn, ev_Call, ev_nil, ev_cons, ev_If, ev_And, ev_Or, ev_Not, ev_cAnd, ev_cOr, ev_cNot, ev_cB, ev_cTr, ev_toB, ev_IsN, ev_NotN, ev_isN_non, ev_isN_int, ev_isN_str, ev_isN_tup, ev_isN_bl, ev_MulL, ev_MulR, ev_DivC, ev_ModC, ev_Neg, ev_addI, ev_subI, ev_ltI, ev_leI, ev_gtI, ev_geI, ev_eqI, ev_neI, ev_eqS, ev_neS, ev_eqN, ev_neN, ev_eqNI, ev_neNI, ev_eqIN, ev_neIN, ev_eqB, ev_neB, ev_isB, ev_notB, ev_absI, ev_min2, ev_max2, ev_lenT, ev_lenL, ev_lenS, ev_tupL, ev_tupT, ev_intI, ev_intB, ev_ixT, ev_ixL, ev_ixS, at0, at1, at2, at3, atM1, ev_seq, ev_set, ev_own, ev_ret, ev_drop, ev_sIf, ev_for, ev_frz, ev_asg, ev_par2, ev_par3, ev_mVal, ev_mOwn, ev_app, ev_setv, ev_sets0, ev_sets1, ev_stv, ev_bnm, ev_btp, ev_bl0, ev_bl1, ev_R1, ev_R2, ev_iL, ev_iT, ev_itL, ev_itT, ev_forNil, ev_nolI, ev_nolN, ev_nolS, ev_nolB, ev_nolT, ev_nolL0, ev_nolL1, ev_cTrue, ev_wipe, Rz.bind_ok, Rz.bind_exc, Rz.bind_bad, Rz.ofO_some, Rz.ofO_none, onR_ok, onR_exc, onR_bad, onO_some, onO_none, List.getElem?_cons_zero, List.getElem?_cons_succ, ite_true, ite_false, if_true, if_false, reduceIte, Nat.reduceEqDiff, reduceCtorEq, Option.map_some, Option.bind_some, List.cons_append, List.nil_append, Option.map_none, Bool.false_eq_true, Bool.not_true, Bool.not_false, decide_true, decide_false, decide_eq_true_eq, beq_self_eq_true, ev_iSq, ev_itS1, ev_itS2, ev_itS3, ev_itS4, ev_iEn, ev_enS1, ev_enS2, ev_iZp, ev_zpS1, ev_zpS2, ev_Ch, ev_Sl, ev_O0, ev_O1, ev_iO, ev_slT, ev_slL, ev_Rg, ev_Rg3, ev_Ls, ev_lsT, ev_lsL, ev_Isi, ev_Isi2, ev_Rev, ev_revT, ev_Wk, ev_wkN, ev_wkT, ev_tupN, ev_CntT, ev_ctT, ev_IxT, ev_ixT', ev_IxL, ev_ixL', ev_Cnt, ev_ctL, ev_Dic, ev_dg, ev_Sub, ev_Ext, ev_trI, ev_trT, ev_trL, ev_MmD, eq_self, ev_IsE, ev_CallH, ev_unN, ev_unR, ev_TryA, ev_Try, ev_exN, ev_exR, ev_exE, ev_tyN, ev_tyR, ev_tyE, ev_Raise, ev_noxN, ev_noxR, ev_Trg, ev_Cat, ii, ib, h1, h2]
    · rw [decide_eq_false (show ¬ (lo ≤ x ∧ x ≤ hi) from fun z => h2 z.2)]
      simp only [ev_C, ev_Var, ev_Bor, ev_Nl, ev_Bin, ev_Tup, ev_L, ev_Fn, ev_Call, ev_nil, ev_cons, ev_If, ev_And, ev_Or, ev_Not, ev_cAnd, ev_cOr, ev_cNot, ev_cB, ev_cTr, ev_toB, ev_IsN, ev_NotN, ev_isN_non, ev_isN_int, ev_isN_str, ev_isN_tup, ev_isN_bl, ev_MulL, ev_MulR, ev_DivC, ev_ModC, ev_Neg, ev_addI, ev_subI, ev_ltI, ev_leI, ev_gtI, ev_geI, ev_eqI, ev_neI, ev_eqS, ev_neS, ev_eqN, ev_neN, ev_eqNI, ev_neNI, ev_eqIN, ev_neIN, ev_eqB, ev_neB, ev_isB, ev_notB, ev_absI, ev_min2, ev_max2, ev_lenT, ev_lenL, ev_lenS, ev_tupL, ev_tupT, ev_intI, ev_intB, ev_ixT, ev_ixL, ev_ixS, at0, at1, at2, at3, atM1, ev_seq, ev_set, ev_own, ev_ret, ev_drop, ev_sIf, ev_for, ev_frz, ev_asg, ev_par2, ev_par3, ev_mVal, ev_mOwn, ev_app, ev_setv, ev_sets0, ev_sets1, ev_stv, ev_bnm, ev_btp, ev_bl0, ev_bl1, ev_R1, ev_R2, ev_iL, ev_iT, ev_itL, ev_itT, ev_forNil, ev_nolI, ev_nolN, ev_nolS, ev_nolB, ev_nolT, ev_nolL0, ev_nolL1, ev_cTrue, ev_wipe, Rz.bind_ok, Rz.bind_exc, Rz.bind_bad, Rz.ofO_some, Rz.ofO_none, onR_ok, onR_exc, onR_bad, onO_some, onO_none, List.getElem?_cons_zero, List.getElem?_cons_succ, ite_true, ite_false, if_true, if_false, reduceIte, Nat.reduceEqDiff, reduceCtorEq, Option.map_some, Option.bind_some, List.cons_append, List.nil_append, Option.map_none, Bool.false_eq_true, Bool.not_true, Bool.not_false, decide_true, decide_false, decide_eq_true_eq, beq_self_eq_true, ev_iSq, ev_itS1, ev_itS2, ev_itS3, ev_itS4, ev_iEn, ev_enS1, ev_enS2, ev_iZp, ev_zpS1, ev_zpS2, ev_Ch, ev_Sl, ev_O0, ev_O1, ev_iO, ev_slT, ev_slL, ev_Rg, ev_Rg3, ev_Ls, ev_lsT, ev_lsL, ev_Isi, ev_Isi2, ev_Rev, ev_revT, ev_Wk, ev_wkN, ev_wkT, ev_tupN, ev_CntT, ev_ctT, ev_IxT, ev_ixT', ev_IxL, ev_ixL', ev_Cnt, ev_ctL, ev_Dic, ev_dg, ev_Sub, ev_Ext, ev_trI, ev_trT, ev_trL, ev_MmD, eq_self, ev_IsE, ev_CallH, ev_unN, ev_unR, ev_TryA, ev_Try, ev_exN, ev_exR, ev_exE, ev_tyN, ev_tyR, ev_tyE, ev_Raise, ev_noxN, ev_noxR, ev_Trg, ev_Cat, ii, ib, h1, h2]
  · rw [decide_eq_false (show ¬ (lo ≤ x ∧ x ≤ hi) from fun z => h1 z.1)]
    simp only [ev_C, ev_Var, ev_Bor, ev_Nl, ev_Bin, ev_Tup, ev_L, ev_Fn, ev_Call, ev_nil, ev_cons, ev_If, ev_And, ev_Or, ev_Not, ev_cAnd, ev_cOr, ev_cNot, ev_cB, ev_cTr, ev_toB, ev_IsN, ev_NotN, ev_isN_non, ev_isN_int, ev_isN_str, ev_isN_tup, ev_isN_bl, ev_MulL, ev_MulR, ev_DivC, ev_ModC, ev_Neg, ev_addI, ev_subI, ev_ltI, ev_leI, ev_gtI, ev_geI, ev_eqI, ev_neI, ev_eqS, ev_neS, ev_eqN, ev_neN, ev_eqNI, ev_neNI, ev_eqIN, ev_neIN, ev_eqB, ev_neB, ev_isB, ev_notB, ev_absI, ev_min2, ev_max2, ev_lenT, ev_lenL, ev_lenS, ev_tupL, ev_tupT, ev_intI, ev_intB, ev_ixT, ev_ixL, ev_ixS, at0, at1, at2, at3, atM1, ev_seq, ev_set, ev_own, ev_ret, ev_drop, ev_sIf, ev_for, ev_frz, ev_asg, ev_par2, ev_par3, ev_mVal, ev_mOwn, ev_app, ev_setv, ev_sets0, ev_sets1, ev_stv, ev_bnm, ev_btp, ev_bl0, ev_bl1, ev_R1, ev_R2, ev_iL, ev_iT, ev_itL, ev_itT, ev_forNil, ev_nolI, ev_nolN, ev_nolS, ev_nolB, ev_nolT, ev_nolL0, ev_nolL1, ev_cTrue, ev_wipe, Rz.bind_ok, Rz.bind_exc, Rz.bind_bad, Rz.ofO_some, Rz.ofO_none, onR_ok, onR_exc, onR_bad, onO_some, onO_none, List.getElem?_cons_zero, List.getElem?_cons_succ, ite_true, ite_false, if_true, if_false, reduceIte, Nat.reduceEqDiff, reduceCtorEq, Option.map_some, Option.bind_some, List.cons_append, List.nil_append, Option.map_none, Bool.false_eq_true, Bool.not_true, Bool.not_false, decide_true, decide_false, decide_eq_true_eq, beq_self_eq_true, ev_iSq, ev_itS1, ev_itS2, ev_itS3, ev_itS4, ev_iEn, ev_enS1, ev_enS2, ev_iZp, ev_zpS1, ev_zpS2, ev_Ch, ev_Sl, ev_O0, ev_O1, ev_iO, ev_slT, ev_slL, ev_Rg, ev_Rg3, ev_Ls, ev_lsT, ev_lsL, ev_Isi, ev_Isi2, ev_Rev, ev_revT, ev_Wk, ev_wkN, ev_wkT, ev_tupN, ev_CntT, ev_ctT, ev_IxT, ev_ixT', ev_IxL, ev_ixL', ev_Cnt, ev_ctL, ev_Dic, ev_dg, ev_Sub, ev_Ext, ev_trI, ev_trT, ev_trL, ev_MmD, eq_self, ev_IsE, ev_CallH, ev_unN, ev_unR, ev_TryA, ev_Try, ev_exN, ev_exR, ev_exE, ev_tyN, ev_tyR, ev_tyE, ev_Raise, ev_noxN, ev_noxR, ev_Trg, ev_Cat, ii, ib, h1]
structure Book.Pre (b : Book) : Prop where
  f1 : 9 ≤ b.full
  f2 : b.full ≤ 9999
  l1 : 0 ≤ b.low
  l2 : b.low < b.full
  n2 : b.pw.length ≤ 6
  pr : ∀ p ∈ b.pw, 0 ≤ p ∧ p ≤ 14
  w1 : 0 ≤ b.wait
  w2 : b.wait ≤ 5
def Book.gd (b : Book) (i : Nat) : Prop := b.p i < b.p (i + 1) ∧ b.low * b.st (i + 1) ≤ b.full * b.st i
theorem st_leP {b : Book} (h : b.Pre) {i : Nat} (hi : i < b.pw.length) : b.st i ≤ 100000000000000 := by
  have := pow_mono (show (b.p i).toNat ≤ 14 by have := (h.pr _ (getD_mem hi)).2; unfold Book.p; omega)
  unfold Book.st
  exact Int.le_trans this (by decide)
theorem ten_p {b : Book} (h : b.Pre) {i : Nat} (hi : i < b.pw.length) : F_ten_to [.int (gI b.pw i)] = .ok (.int (b.st i)) := by
  have := h.pr _ (getD_mem hi)
  exact F_ten_to_eq this.1 (by omega)
theorem ib_loop {b : Book} (h : b.Pre) : ∀ (n k : Nat) (e : En), 1 ≤ k → k + n = b.pw.length → e.v 1 = .val (.int b.full) → e.v 2 = .val (.int b.low) → e.v 3 = .val (.tup (b.pw.map D.int)) → (∃ e', forGo (.nm 5) g_is_book_b0 (rngD k n) e = .next e' ∧ ∀ i, k ≤ i + 1 → i + 1 < b.pw.length → b.gd i) ∨ (∃ e', forGo (.nm 5) g_is_book_b0 (rngD k n) e = .ret (.bl false) e' ∧ ∃ i, i + 1 < b.pw.length ∧ ¬ b.gd i)
  | 0, k, e, _, hk, _, _, _ => .inl ⟨e, rfl, fun i h1 h2 => by omega⟩
  | n + 1, k, e, hk1, hk, h1, h2, h3 => by
    obtain ⟨j, rfl⟩ : ∃ j, k = j + 1 := ⟨k - 1, by omega⟩
    have i1 : atI (b.pw.map D.int) (((j + 1 : Nat) : Int) - 1) = some (.int (gI b.pw j)) := by
      rw [at_map_int (by omega) (by omega)]; congr 3; omega
    have i2 : atI (b.pw.map D.int) ((j + 1 : Nat) : Int) = some (.int (gI b.pw (j + 1))) := by
      rw [at_map_int (by omega) (by omega)]; congr 3
    have t1 := ten_p h (i := j) (by omega)
    have t2 := ten_p h (i := j + 1) (by omega)
    have m1 := mul_ok (i := b.full) (j := b.st j) (.inl ⟨by have := h.f1; omega, by have := h.f2; omega⟩)
    have m2 := mul_ok (i := b.low) (j := b.st (j + 1)) (.inl ⟨by have := h.l1; omega, by have := h.l2; have := h.f2; omega⟩)
    rw [rngD]
    by_cases g : b.gd j
    · have q1 : ¬ gI b.pw (j + 1) ≤ gI b.pw j := by have := g.1; unfold Book.p at this; omega
      have q2 : ¬ b.full * b.st j < b.low * b.st (j + 1) := by have := g.2; omega
      have key : g_is_book_b0 (e.set 5 (.val (.int ((j + 1 : Nat) : Int)))) = .next (e.set 5 (.val (.int ((j + 1 : Nat) : Int)))) := by
        unfold g_is_book_b0
        simp only [ev_C, ev_Var, ev_Bor, ev_Nl, ev_Bin, ev_Tup, ev_L, ev_Fn, ev_Call, ev_nil, ev_cons, ev_If, ev_And, ev_Or, ev_Not, ev_cAnd, ev_cOr, ev_cNot, ev_cB, ev_cTr, ev_toB, ev_IsN, ev_NotN, ev_isN_non, ev_isN_int, ev_isN_str, ev_isN_tup, ev_isN_bl, ev_MulL, ev_MulR, ev_DivC, ev_ModC, ev_Neg, ev_addI, ev_subI, ev_ltI, ev_leI, ev_gtI, ev_geI, ev_eqI, ev_neI, ev_eqS, ev_neS, ev_eqN, ev_neN, ev_eqNI, ev_neNI, ev_eqIN, ev_neIN, ev_eqB, ev_neB, ev_isB, ev_notB, ev_absI, ev_min2, ev_max2, ev_lenT, ev_lenL, ev_lenS, ev_tupL, ev_tupT, ev_intI, ev_intB, ev_ixT, ev_ixL, ev_ixS, at0, at1, at2, at3, atM1, ev_seq, ev_set, ev_own, ev_ret, ev_drop, ev_sIf, ev_for, ev_frz, ev_asg, ev_par2, ev_par3, ev_mVal, ev_mOwn, ev_app, ev_setv, ev_sets0, ev_sets1, ev_stv, ev_bnm, ev_btp, ev_bl0, ev_bl1, ev_R1, ev_R2, ev_iL, ev_iT, ev_itL, ev_itT, ev_forNil, ev_nolI, ev_nolN, ev_nolS, ev_nolB, ev_nolT, ev_nolL0, ev_nolL1, ev_cTrue, ev_wipe, Rz.bind_ok, Rz.bind_exc, Rz.bind_bad, Rz.ofO_some, Rz.ofO_none, onR_ok, onR_exc, onR_bad, onO_some, onO_none, List.getElem?_cons_zero, List.getElem?_cons_succ, ite_true, ite_false, if_true, if_false, reduceIte, Nat.reduceEqDiff, reduceCtorEq, Option.map_some, Option.bind_some, List.cons_append, List.nil_append, Option.map_none, Bool.false_eq_true, Bool.not_true, Bool.not_false, decide_true, decide_false, decide_eq_true_eq, beq_self_eq_true, ev_iSq, ev_itS1, ev_itS2, ev_itS3, ev_itS4, ev_iEn, ev_enS1, ev_enS2, ev_iZp, ev_zpS1, ev_zpS2, ev_Ch, ev_Sl, ev_O0, ev_O1, ev_iO, ev_slT, ev_slL, ev_Rg, ev_Rg3, ev_Ls, ev_lsT, ev_lsL, ev_Isi, ev_Isi2, ev_Rev, ev_revT, ev_Wk, ev_wkN, ev_wkT, ev_tupN, ev_CntT, ev_ctT, ev_IxT, ev_ixT', ev_IxL, ev_ixL', ev_Cnt, ev_ctL, ev_Dic, ev_dg, ev_Sub, ev_Ext, ev_trI, ev_trT, ev_trL, ev_MmD, eq_self, ev_IsE, ev_CallH, ev_unN, ev_unR, ev_TryA, ev_Try, ev_exN, ev_exR, ev_exE, ev_tyN, ev_tyR, ev_tyE, ev_Raise, ev_noxN, ev_noxR, ev_Trg, ev_Cat, h1, h2, h3, i1, i2, t1, t2, m1, m2, q1, q2, SR.next]
      rw [forNm_step key]
      have := ib_loop h n (j + 2) (e.set 5 (.val (.int ((j + 1 : Nat) : Int)))) (by omega) (by omega) (by simp only [ev_C, ev_Var, ev_Bor, ev_Nl, ev_Bin, ev_Tup, ev_L, ev_Fn, ev_Call, ev_nil, ev_cons, ev_If, ev_And, ev_Or, ev_Not, ev_cAnd, ev_cOr, ev_cNot, ev_cB, ev_cTr, ev_toB, ev_IsN, ev_NotN, ev_isN_non, ev_isN_int, ev_isN_str, ev_isN_tup, ev_isN_bl, ev_MulL, ev_MulR, ev_DivC, ev_ModC, ev_Neg, ev_addI, ev_subI, ev_ltI, ev_leI, ev_gtI, ev_geI, ev_eqI, ev_neI, ev_eqS, ev_neS, ev_eqN, ev_neN, ev_eqNI, ev_neNI, ev_eqIN, ev_neIN, ev_eqB, ev_neB, ev_isB, ev_notB, ev_absI, ev_min2, ev_max2, ev_lenT, ev_lenL, ev_lenS, ev_tupL, ev_tupT, ev_intI, ev_intB, ev_ixT, ev_ixL, ev_ixS, at0, at1, at2, at3, atM1, ev_seq, ev_set, ev_own, ev_ret, ev_drop, ev_sIf, ev_for, ev_frz, ev_asg, ev_par2, ev_par3, ev_mVal, ev_mOwn, ev_app, ev_setv, ev_sets0, ev_sets1, ev_stv, ev_bnm, ev_btp, ev_bl0, ev_bl1, ev_R1, ev_R2, ev_iL, ev_iT, ev_itL, ev_itT, ev_forNil, ev_nolI, ev_nolN, ev_nolS, ev_nolB, ev_nolT, ev_nolL0, ev_nolL1, ev_cTrue, ev_wipe, Rz.bind_ok, Rz.bind_exc, Rz.bind_bad, Rz.ofO_some, Rz.ofO_none, onR_ok, onR_exc, onR_bad, onO_some, onO_none, List.getElem?_cons_zero, List.getElem?_cons_succ, ite_true, ite_false, if_true, if_false, reduceIte, Nat.reduceEqDiff, reduceCtorEq, Option.map_some, Option.bind_some, List.cons_append, List.nil_append, Option.map_none, Bool.false_eq_true, Bool.not_true, Bool.not_false, decide_true, decide_false, decide_eq_true_eq, beq_self_eq_true, ev_iSq, ev_itS1, ev_itS2, ev_itS3, ev_itS4, ev_iEn, ev_enS1, ev_enS2, ev_iZp, ev_zpS1, ev_zpS2, ev_Ch, ev_Sl, ev_O0, ev_O1, ev_iO, ev_slT, ev_slL, ev_Rg, ev_Rg3, ev_Ls, ev_lsT, ev_lsL, ev_Isi, ev_Isi2, ev_Rev, ev_revT, ev_Wk, ev_wkN, ev_wkT, ev_tupN, ev_CntT, ev_ctT, ev_IxT, ev_ixT', ev_IxL, ev_ixL', ev_Cnt, ev_ctL, ev_Dic, ev_dg, ev_Sub, ev_Ext, ev_trI, ev_trT, ev_trL, ev_MmD, eq_self, ev_IsE, ev_CallH, ev_unN, ev_unR, ev_TryA, ev_Try, ev_exN, ev_exR, ev_exE, ev_tyN, ev_tyR, ev_tyE, ev_Raise, ev_noxN, ev_noxR, ev_Trg, ev_Cat, h1]) (by simp only [ev_C, ev_Var, ev_Bor, ev_Nl, ev_Bin, ev_Tup, ev_L, ev_Fn, ev_Call, ev_nil, ev_cons, ev_If, ev_And, ev_Or, ev_Not, ev_cAnd, ev_cOr, ev_cNot, ev_cB, ev_cTr, ev_toB, ev_IsN, ev_NotN, ev_isN_non, ev_isN_int, ev_isN_str, ev_isN_tup, ev_isN_bl, ev_MulL, ev_MulR, ev_DivC, ev_ModC, ev_Neg, ev_addI, ev_subI, ev_ltI, ev_leI, ev_gtI, ev_geI, ev_eqI, ev_neI, ev_eqS, ev_neS, ev_eqN, ev_neN, ev_eqNI, ev_neNI, ev_eqIN, ev_neIN, ev_eqB, ev_neB, ev_isB, ev_notB, ev_absI, ev_min2, ev_max2, ev_lenT, ev_lenL, ev_lenS, ev_tupL, ev_tupT, ev_intI, ev_intB, ev_ixT, ev_ixL, ev_ixS, at0, at1, at2, at3, atM1, ev_seq, ev_set, ev_own, ev_ret, ev_drop, ev_sIf, ev_for, ev_frz, ev_asg, ev_par2, ev_par3, ev_mVal, ev_mOwn, ev_app, ev_setv, ev_sets0, ev_sets1, ev_stv, ev_bnm, ev_btp, ev_bl0, ev_bl1, ev_R1, ev_R2, ev_iL, ev_iT, ev_itL, ev_itT, ev_forNil, ev_nolI, ev_nolN, ev_nolS, ev_nolB, ev_nolT, ev_nolL0, ev_nolL1, ev_cTrue, ev_wipe, Rz.bind_ok, Rz.bind_exc, Rz.bind_bad, Rz.ofO_some, Rz.ofO_none, onR_ok, onR_exc, onR_bad, onO_some, onO_none, List.getElem?_cons_zero, List.getElem?_cons_succ, ite_true, ite_false, if_true, if_false, reduceIte, Nat.reduceEqDiff, reduceCtorEq, Option.map_some, Option.bind_some, List.cons_append, List.nil_append, Option.map_none, Bool.false_eq_true, Bool.not_true, Bool.not_false, decide_true, decide_false, decide_eq_true_eq, beq_self_eq_true, ev_iSq, ev_itS1, ev_itS2, ev_itS3, ev_itS4, ev_iEn, ev_enS1, ev_enS2, ev_iZp, ev_zpS1, ev_zpS2, ev_Ch, ev_Sl, ev_O0, ev_O1, ev_iO, ev_slT, ev_slL, ev_Rg, ev_Rg3, ev_Ls, ev_lsT, ev_lsL, ev_Isi, ev_Isi2, ev_Rev, ev_revT, ev_Wk, ev_wkN, ev_wkT, ev_tupN, ev_CntT, ev_ctT, ev_IxT, ev_ixT', ev_IxL, ev_ixL', ev_Cnt, ev_ctL, ev_Dic, ev_dg, ev_Sub, ev_Ext, ev_trI, ev_trT, ev_trL, ev_MmD, eq_self, ev_IsE, ev_CallH, ev_unN, ev_unR, ev_TryA, ev_Try, ev_exN, ev_exR, ev_exE, ev_tyN, ev_tyR, ev_tyE, ev_Raise, ev_noxN, ev_noxR, ev_Trg, ev_Cat, h2]) (by simp only [ev_C, ev_Var, ev_Bor, ev_Nl, ev_Bin, ev_Tup, ev_L, ev_Fn, ev_Call, ev_nil, ev_cons, ev_If, ev_And, ev_Or, ev_Not, ev_cAnd, ev_cOr, ev_cNot, ev_cB, ev_cTr, ev_toB, ev_IsN, ev_NotN, ev_isN_non, ev_isN_int, ev_isN_str, ev_isN_tup, ev_isN_bl, ev_MulL, ev_MulR, ev_DivC, ev_ModC, ev_Neg, ev_addI, ev_subI, ev_ltI, ev_leI, ev_gtI, ev_geI, ev_eqI, ev_neI, ev_eqS, ev_neS, ev_eqN, ev_neN, ev_eqNI, ev_neNI, ev_eqIN, ev_neIN, ev_eqB, ev_neB, ev_isB, ev_notB, ev_absI, ev_min2, ev_max2, ev_lenT, ev_lenL, ev_lenS, ev_tupL, ev_tupT, ev_intI, ev_intB, ev_ixT, ev_ixL, ev_ixS, at0, at1, at2, at3, atM1, ev_seq, ev_set, ev_own, ev_ret, ev_drop, ev_sIf, ev_for, ev_frz, ev_asg, ev_par2, ev_par3, ev_mVal, ev_mOwn, ev_app, ev_setv, ev_sets0, ev_sets1, ev_stv, ev_bnm, ev_btp, ev_bl0, ev_bl1, ev_R1, ev_R2, ev_iL, ev_iT, ev_itL, ev_itT, ev_forNil, ev_nolI, ev_nolN, ev_nolS, ev_nolB, ev_nolT, ev_nolL0, ev_nolL1, ev_cTrue, ev_wipe, Rz.bind_ok, Rz.bind_exc, Rz.bind_bad, Rz.ofO_some, Rz.ofO_none, onR_ok, onR_exc, onR_bad, onO_some, onO_none, List.getElem?_cons_zero, List.getElem?_cons_succ, ite_true, ite_false, if_true, if_false, reduceIte, Nat.reduceEqDiff, reduceCtorEq, Option.map_some, Option.bind_some, List.cons_append, List.nil_append, Option.map_none, Bool.false_eq_true, Bool.not_true, Bool.not_false, decide_true, decide_false, decide_eq_true_eq, beq_self_eq_true, ev_iSq, ev_itS1, ev_itS2, ev_itS3, ev_itS4, ev_iEn, ev_enS1, ev_enS2, ev_iZp, ev_zpS1, ev_zpS2, ev_Ch, ev_Sl, ev_O0, ev_O1, ev_iO, ev_slT, ev_slL, ev_Rg, ev_Rg3, ev_Ls, ev_lsT, ev_lsL, ev_Isi, ev_Isi2, ev_Rev, ev_revT, ev_Wk, ev_wkN, ev_wkT, ev_tupN, ev_CntT, ev_ctT, ev_IxT, ev_ixT', ev_IxL, ev_ixL', ev_Cnt, ev_ctL, ev_Dic, ev_dg, ev_Sub, ev_Ext, ev_trI, ev_trT, ev_trL, ev_MmD, eq_self, ev_IsE, ev_CallH, ev_unN, ev_unR, ev_TryA, ev_Try, ev_exN, ev_exR, ev_exE, ev_tyN, ev_tyR, ev_tyE, ev_Raise, ev_noxN, ev_noxR, ev_Trg, ev_Cat, h3])
      rw [show ((j + 2 : Nat) : Int) = ((j + 1 : Nat) : Int) + 1 by push_cast; omega] at this
      rcases this with ⟨e', a1, a2⟩ | h4
      · refine .inl ⟨e', a1, fun i hi1 hi2 => ?_⟩
        by_cases q : i = j
        · subst q; exact g
        · exact a2 i (by omega) hi2
      · exact .inr h4
    · refine .inr ?_
      have key : ∃ e', g_is_book_b0 (e.set 5 (.val (.int ((j + 1 : Nat) : Int)))) = .ret (.bl false) e' := by
        unfold g_is_book_b0
        by_cases q1 : gI b.pw (j + 1) ≤ gI b.pw j
        · exact ⟨_, by simp only [ev_C, ev_Var, ev_Bor, ev_Nl, ev_Bin, ev_Tup, ev_L, ev_Fn, ev_Call, ev_nil, ev_cons, ev_If, ev_And, ev_Or, ev_Not, ev_cAnd, ev_cOr, ev_cNot, ev_cB, ev_cTr, ev_toB, ev_IsN, ev_NotN, ev_isN_non, ev_isN_int, ev_isN_str, ev_isN_tup, ev_isN_bl, ev_MulL, ev_MulR, ev_DivC, ev_ModC, ev_Neg, ev_addI, ev_subI, ev_ltI, ev_leI, ev_gtI, ev_geI, ev_eqI, ev_neI, ev_eqS, ev_neS, ev_eqN, ev_neN, ev_eqNI, ev_neNI, ev_eqIN, ev_neIN, ev_eqB, ev_neB, ev_isB, ev_notB, ev_absI, ev_min2, ev_max2, ev_lenT, ev_lenL, ev_lenS, ev_tupL, ev_tupT, ev_intI, ev_intB, ev_ixT, ev_ixL, ev_ixS, at0, at1, at2, at3, atM1, ev_seq, ev_set, ev_own, ev_ret, ev_drop, ev_sIf, ev_for, ev_frz, ev_asg, ev_par2, ev_par3, ev_mVal, ev_mOwn, ev_app, ev_setv, ev_sets0, ev_sets1, ev_stv, ev_bnm, ev_btp, ev_bl0, ev_bl1, ev_R1, ev_R2, ev_iL, ev_iT, ev_itL, ev_itT, ev_forNil, ev_nolI, ev_nolN, ev_nolS, ev_nolB, ev_nolT, ev_nolL0, ev_nolL1, ev_cTrue, ev_wipe, Rz.bind_ok, Rz.bind_exc, Rz.bind_bad, Rz.ofO_some, Rz.ofO_none, onR_ok, onR_exc, onR_bad, onO_some, onO_none, List.getElem?_cons_zero, List.getElem?_cons_succ, ite_true, ite_false, if_true, if_false, reduceIte, Nat.reduceEqDiff, reduceCtorEq, Option.map_some, Option.bind_some, List.cons_append, List.nil_append, Option.map_none, Bool.false_eq_true, Bool.not_true, Bool.not_false, decide_true, decide_false, decide_eq_true_eq, beq_self_eq_true, ev_iSq, ev_itS1, ev_itS2, ev_itS3, ev_itS4, ev_iEn, ev_enS1, ev_enS2, ev_iZp, ev_zpS1, ev_zpS2, ev_Ch, ev_Sl, ev_O0, ev_O1, ev_iO, ev_slT, ev_slL, ev_Rg, ev_Rg3, ev_Ls, ev_lsT, ev_lsL, ev_Isi, ev_Isi2, ev_Rev, ev_revT, ev_Wk, ev_wkN, ev_wkT, ev_tupN, ev_CntT, ev_ctT, ev_IxT, ev_ixT', ev_IxL, ev_ixL', ev_Cnt, ev_ctL, ev_Dic, ev_dg, ev_Sub, ev_Ext, ev_trI, ev_trT, ev_trL, ev_MmD, eq_self, ev_IsE, ev_CallH, ev_unN, ev_unR, ev_TryA, ev_Try, ev_exN, ev_exR, ev_exE, ev_tyN, ev_tyR, ev_tyE, ev_Raise, ev_noxN, ev_noxR, ev_Trg, ev_Cat, h1, h2, h3, i1, i2, q1]; rfl⟩
        · have q2 : b.full * b.st j < b.low * b.st (j + 1) := by
            by_cases z : b.full * b.st j < b.low * b.st (j + 1)
            · exact z
            · exact absurd ⟨by unfold Book.p; omega, by omega⟩ g
          exact ⟨_, by simp only [ev_C, ev_Var, ev_Bor, ev_Nl, ev_Bin, ev_Tup, ev_L, ev_Fn, ev_Call, ev_nil, ev_cons, ev_If, ev_And, ev_Or, ev_Not, ev_cAnd, ev_cOr, ev_cNot, ev_cB, ev_cTr, ev_toB, ev_IsN, ev_NotN, ev_isN_non, ev_isN_int, ev_isN_str, ev_isN_tup, ev_isN_bl, ev_MulL, ev_MulR, ev_DivC, ev_ModC, ev_Neg, ev_addI, ev_subI, ev_ltI, ev_leI, ev_gtI, ev_geI, ev_eqI, ev_neI, ev_eqS, ev_neS, ev_eqN, ev_neN, ev_eqNI, ev_neNI, ev_eqIN, ev_neIN, ev_eqB, ev_neB, ev_isB, ev_notB, ev_absI, ev_min2, ev_max2, ev_lenT, ev_lenL, ev_lenS, ev_tupL, ev_tupT, ev_intI, ev_intB, ev_ixT, ev_ixL, ev_ixS, at0, at1, at2, at3, atM1, ev_seq, ev_set, ev_own, ev_ret, ev_drop, ev_sIf, ev_for, ev_frz, ev_asg, ev_par2, ev_par3, ev_mVal, ev_mOwn, ev_app, ev_setv, ev_sets0, ev_sets1, ev_stv, ev_bnm, ev_btp, ev_bl0, ev_bl1, ev_R1, ev_R2, ev_iL, ev_iT, ev_itL, ev_itT, ev_forNil, ev_nolI, ev_nolN, ev_nolS, ev_nolB, ev_nolT, ev_nolL0, ev_nolL1, ev_cTrue, ev_wipe, Rz.bind_ok, Rz.bind_exc, Rz.bind_bad, Rz.ofO_some, Rz.ofO_none, onR_ok, onR_exc, onR_bad, onO_some, onO_none, List.getElem?_cons_zero, List.getElem?_cons_succ, ite_true, ite_false, if_true, if_false, reduceIte, Nat.reduceEqDiff, reduceCtorEq, Option.map_some, Option.bind_some, List.cons_append, List.nil_append, Option.map_none, Bool.false_eq_true, Bool.not_true, Bool.not_false, decide_true, decide_false, decide_eq_true_eq, beq_self_eq_true, ev_iSq, ev_itS1, ev_itS2, ev_itS3, ev_itS4, ev_iEn, ev_enS1, ev_enS2, ev_iZp, ev_zpS1, ev_zpS2, ev_Ch, ev_Sl, ev_O0, ev_O1, ev_iO, ev_slT, ev_slL, ev_Rg, ev_Rg3, ev_Ls, ev_lsT, ev_lsL, ev_Isi, ev_Isi2, ev_Rev, ev_revT, ev_Wk, ev_wkN, ev_wkT, ev_tupN, ev_CntT, ev_ctT, ev_IxT, ev_ixT', ev_IxL, ev_ixL', ev_Cnt, ev_ctL, ev_Dic, ev_dg, ev_Sub, ev_Ext, ev_trI, ev_trT, ev_trL, ev_MmD, eq_self, ev_IsE, ev_CallH, ev_unN, ev_unR, ev_TryA, ev_Try, ev_exN, ev_exR, ev_exE, ev_tyN, ev_tyR, ev_tyE, ev_Raise, ev_noxN, ev_noxR, ev_Trg, ev_Cat, h1, h2, h3, i1, i2, t1, t2, m1, m2, q1, q2]; rfl⟩
      obtain ⟨e', key⟩ := key
      refine ⟨e', ?_, j, by omega, g⟩
      rw [forGo, ev_bnm]
      simp only [onO_some, ev_sets1, ev_sets0, key]
theorem whole_all {l : List Int} (h : ∀ p ∈ l, 0 ≤ p ∧ p ≤ 14) {e : En} : lcGo (.nm 6) cTrue (eCall F_is_whole [(eVar 6), (eC (.int 0)), (eC (.int 14))]) e (l.map D.int) = .ok (l.map fun _ => D.bl true) := by
  refine lc_each l fun p hp => ⟨_, ev_bnm _ _, ?_⟩
  have := F_is_whole_eq p 0 14
  rw [decide_eq_true (h p hp)] at this
  simp only [ev_C, ev_Var, ev_Bor, ev_Nl, ev_Bin, ev_Tup, ev_L, ev_Fn, ev_Call, ev_nil, ev_cons, ev_If, ev_And, ev_Or, ev_Not, ev_cAnd, ev_cOr, ev_cNot, ev_cB, ev_cTr, ev_toB, ev_IsN, ev_NotN, ev_isN_non, ev_isN_int, ev_isN_str, ev_isN_tup, ev_isN_bl, ev_MulL, ev_MulR, ev_DivC, ev_ModC, ev_Neg, ev_addI, ev_subI, ev_ltI, ev_leI, ev_gtI, ev_geI, ev_eqI, ev_neI, ev_eqS, ev_neS, ev_eqN, ev_neN, ev_eqNI, ev_neNI, ev_eqIN, ev_neIN, ev_eqB, ev_neB, ev_isB, ev_notB, ev_absI, ev_min2, ev_max2, ev_lenT, ev_lenL, ev_lenS, ev_tupL, ev_tupT, ev_intI, ev_intB, ev_ixT, ev_ixL, ev_ixS, at0, at1, at2, at3, atM1, ev_seq, ev_set, ev_own, ev_ret, ev_drop, ev_sIf, ev_for, ev_frz, ev_asg, ev_par2, ev_par3, ev_mVal, ev_mOwn, ev_app, ev_setv, ev_sets0, ev_sets1, ev_stv, ev_bnm, ev_btp, ev_bl0, ev_bl1, ev_R1, ev_R2, ev_iL, ev_iT, ev_itL, ev_itT, ev_forNil, ev_nolI, ev_nolN, ev_nolS, ev_nolB, ev_nolT, ev_nolL0, ev_nolL1, ev_cTrue, ev_wipe, Rz.bind_ok, Rz.bind_exc, Rz.bind_bad, Rz.ofO_some, Rz.ofO_none, onR_ok, onR_exc, onR_bad, onO_some, onO_none, List.getElem?_cons_zero, List.getElem?_cons_succ, ite_true, ite_false, if_true, if_false, reduceIte, Nat.reduceEqDiff, reduceCtorEq, Option.map_some, Option.bind_some, List.cons_append, List.nil_append, Option.map_none, Bool.false_eq_true, Bool.not_true, Bool.not_false, decide_true, decide_false, decide_eq_true_eq, beq_self_eq_true, ev_iSq, ev_itS1, ev_itS2, ev_itS3, ev_itS4, ev_iEn, ev_enS1, ev_enS2, ev_iZp, ev_zpS1, ev_zpS2, ev_Ch, ev_Sl, ev_O0, ev_O1, ev_iO, ev_slT, ev_slL, ev_Rg, ev_Rg3, ev_Ls, ev_lsT, ev_lsL, ev_Isi, ev_Isi2, ev_Rev, ev_revT, ev_Wk, ev_wkN, ev_wkT, ev_tupN, ev_CntT, ev_ctT, ev_IxT, ev_ixT', ev_IxL, ev_ixL', ev_Cnt, ev_ctL, ev_Dic, ev_dg, ev_Sub, ev_Ext, ev_trI, ev_trT, ev_trL, ev_MmD, eq_self, ev_IsE, ev_CallH, ev_unN, ev_unR, ev_TryA, ev_Try, ev_exN, ev_exR, ev_exE, ev_tyN, ev_tyR, ev_tyE, ev_Raise, ev_noxN, ev_noxR, ev_Trg, ev_Cat, this]
theorem all_true {α : Type} : ∀ l : List α, blL (l.map fun _ => D.bl true) = some (l.map fun _ => true)
  | [] => rfl
  | a :: l => by rw [List.map_cons, blL, all_true l]; rfl
theorem all_id {α : Type} : ∀ l : List α, (l.map fun _ => true).all id = true
  | [] => rfl
  | a :: l => by rw [List.map_cons, List.all_cons, all_id l]; rfl
theorem F_is_book_eq {b : Book} (h : b.Pre) : ∃ c : Bool, F_is_book [b.d] = .ok (.bl c) ∧ (c = true ↔ b.Ok) := by
  have w0 := F_is_whole_eq b.full 9 9999
  rw [decide_eq_true ⟨h.f1, h.f2⟩] at w0
  have w1 := F_is_whole_eq b.low 0 (b.full - 1)
  rw [decide_eq_true ⟨h.l1, by have := h.l2; omega⟩] at w1
  have w2 := F_is_whole_eq b.wait 0 5
  rw [decide_eq_true ⟨h.w1, h.w2⟩] at w2
  have n2 := h.n2
  have c6 : ((b.pw.length : Int)) ≤ 6 := by omega
  have L0 : F_is_book [b.d] = fnD g_is_book [b.d] := rfl
  by_cases n1 : 1 ≤ b.pw.length
  · have c1 : (1 : Int) ≤ b.pw.length := by omega
    have key : ∀ {d : D}, (∀ e : En, e.v 1 = .val (.int b.full) → e.v 2 = .val (.int b.low) → e.v 3 = .val (.tup (b.pw.map D.int)) → Rt (sSeq (sFor (iR2 (eC (.int 1)) (eFn lenD [(eVar 3)])) (Pat.nm 5) g_is_book_b0) (sRet (eC (.bl true))) e) d) → F_is_book [b.d] = .ok d := by
      intro d hk
      refine fnD_of (Rt.iff (by simp only [ev_C, ev_Var, ev_Bor, ev_Nl, ev_Bin, ev_Tup, ev_L, ev_Fn, ev_Call, ev_nil, ev_cons, ev_If, ev_And, ev_Or, ev_Not, ev_cAnd, ev_cOr, ev_cNot, ev_cB, ev_cTr, ev_toB, ev_IsN, ev_NotN, ev_isN_non, ev_isN_int, ev_isN_str, ev_isN_tup, ev_isN_bl, ev_MulL, ev_MulR, ev_DivC, ev_ModC, ev_Neg, ev_addI, ev_subI, ev_ltI, ev_leI, ev_gtI, ev_geI, ev_eqI, ev_neI, ev_eqS, ev_neS, ev_eqN, ev_neN, ev_eqNI, ev_neNI, ev_eqIN, ev_neIN, ev_eqB, ev_neB, ev_isB, ev_notB, ev_absI, ev_min2, ev_max2, ev_lenT, ev_lenL, ev_lenS, ev_tupL, ev_tupT, ev_intI, ev_intB, ev_ixT, ev_ixL, ev_ixS, at0, at1, at2, at3, atM1, ev_seq, ev_set, ev_own, ev_ret, ev_drop, ev_sIf, ev_for, ev_frz, ev_asg, ev_par2, ev_par3, ev_mVal, ev_mOwn, ev_app, ev_setv, ev_sets0, ev_sets1, ev_stv, ev_bnm, ev_btp, ev_bl0, ev_bl1, ev_R1, ev_R2, ev_iL, ev_iT, ev_itL, ev_itT, ev_forNil, ev_nolI, ev_nolN, ev_nolS, ev_nolB, ev_nolT, ev_nolL0, ev_nolL1, ev_cTrue, ev_wipe, Rz.bind_ok, Rz.bind_exc, Rz.bind_bad, Rz.ofO_some, Rz.ofO_none, onR_ok, onR_exc, onR_bad, onO_some, onO_none, List.getElem?_cons_zero, List.getElem?_cons_succ, ite_true, ite_false, if_true, if_false, reduceIte, Nat.reduceEqDiff, reduceCtorEq, Option.map_some, Option.bind_some, List.cons_append, List.nil_append, Option.map_none, Bool.false_eq_true, Bool.not_true, Bool.not_false, decide_true, decide_false, decide_eq_true_eq, beq_self_eq_true, ev_iSq, ev_itS1, ev_itS2, ev_itS3, ev_itS4, ev_iEn, ev_enS1, ev_enS2, ev_iZp, ev_zpS1, ev_zpS2, ev_Ch, ev_Sl, ev_O0, ev_O1, ev_iO, ev_slT, ev_slL, ev_Rg, ev_Rg3, ev_Ls, ev_lsT, ev_lsL, ev_Isi, ev_Isi2, ev_Rev, ev_revT, ev_Wk, ev_wkN, ev_wkT, ev_tupN, ev_CntT, ev_ctT, ev_IxT, ev_ixT', ev_IxL, ev_ixL', ev_Cnt, ev_ctL, ev_Dic, ev_dg, ev_Sub, ev_Ext, ev_trI, ev_trT, ev_trL, ev_MmD, eq_self, ev_IsE, ev_CallH, ev_unN, ev_unR, ev_TryA, ev_Try, ev_exN, ev_exR, ev_exE, ev_tyN, ev_tyR, ev_tyE, ev_Raise, ev_noxN, ev_noxR, ev_Trg, ev_Cat, it, bd0, w0, Book.d, List.length_cons, List.length_nil]; rfl) ?_)
      refine Rt.seq (e1 := _) (by simp only [ev_C, ev_Var, ev_Bor, ev_Nl, ev_Bin, ev_Tup, ev_L, ev_Fn, ev_Call, ev_nil, ev_cons, ev_If, ev_And, ev_Or, ev_Not, ev_cAnd, ev_cOr, ev_cNot, ev_cB, ev_cTr, ev_toB, ev_IsN, ev_NotN, ev_isN_non, ev_isN_int, ev_isN_str, ev_isN_tup, ev_isN_bl, ev_MulL, ev_MulR, ev_DivC, ev_ModC, ev_Neg, ev_addI, ev_subI, ev_ltI, ev_leI, ev_gtI, ev_geI, ev_eqI, ev_neI, ev_eqS, ev_neS, ev_eqN, ev_neN, ev_eqNI, ev_neNI, ev_eqIN, ev_neIN, ev_eqB, ev_neB, ev_isB, ev_notB, ev_absI, ev_min2, ev_max2, ev_lenT, ev_lenL, ev_lenS, ev_tupL, ev_tupT, ev_intI, ev_intB, ev_ixT, ev_ixL, ev_ixS, at0, at1, at2, at3, atM1, ev_seq, ev_set, ev_own, ev_ret, ev_drop, ev_sIf, ev_for, ev_frz, ev_asg, ev_par2, ev_par3, ev_mVal, ev_mOwn, ev_app, ev_setv, ev_sets0, ev_sets1, ev_stv, ev_bnm, ev_btp, ev_bl0, ev_bl1, ev_R1, ev_R2, ev_iL, ev_iT, ev_itL, ev_itT, ev_forNil, ev_nolI, ev_nolN, ev_nolS, ev_nolB, ev_nolT, ev_nolL0, ev_nolL1, ev_cTrue, ev_wipe, Rz.bind_ok, Rz.bind_exc, Rz.bind_bad, Rz.ofO_some, Rz.ofO_none, onR_ok, onR_exc, onR_bad, onO_some, onO_none, List.getElem?_cons_zero, List.getElem?_cons_succ, ite_true, ite_false, if_true, if_false, reduceIte, Nat.reduceEqDiff, reduceCtorEq, Option.map_some, Option.bind_some, List.cons_append, List.nil_append, Option.map_none, Bool.false_eq_true, Bool.not_true, Bool.not_false, decide_true, decide_false, decide_eq_true_eq, beq_self_eq_true, ev_iSq, ev_itS1, ev_itS2, ev_itS3, ev_itS4, ev_iEn, ev_enS1, ev_enS2, ev_iZp, ev_zpS1, ev_zpS2, ev_Ch, ev_Sl, ev_O0, ev_O1, ev_iO, ev_slT, ev_slL, ev_Rg, ev_Rg3, ev_Ls, ev_lsT, ev_lsL, ev_Isi, ev_Isi2, ev_Rev, ev_revT, ev_Wk, ev_wkN, ev_wkT, ev_tupN, ev_CntT, ev_ctT, ev_IxT, ev_ixT', ev_IxL, ev_ixL', ev_Cnt, ev_ctL, ev_Dic, ev_dg, ev_Sub, ev_Ext, ev_trI, ev_trT, ev_trL, ev_MmD, eq_self, ev_IsE, ev_CallH, ev_unN, ev_unR, ev_TryA, ev_Try, ev_exN, ev_exR, ev_exE, ev_tyN, ev_tyR, ev_tyE, ev_Raise, ev_noxN, ev_noxR, ev_Trg, ev_Cat, Book.d]; rfl) ?_
      refine Rt.iff (by simp only [ev_C, ev_Var, ev_Bor, ev_Nl, ev_Bin, ev_Tup, ev_L, ev_Fn, ev_Call, ev_nil, ev_cons, ev_If, ev_And, ev_Or, ev_Not, ev_cAnd, ev_cOr, ev_cNot, ev_cB, ev_cTr, ev_toB, ev_IsN, ev_NotN, ev_isN_non, ev_isN_int, ev_isN_str, ev_isN_tup, ev_isN_bl, ev_MulL, ev_MulR, ev_DivC, ev_ModC, ev_Neg, ev_addI, ev_subI, ev_ltI, ev_leI, ev_gtI, ev_geI, ev_eqI, ev_neI, ev_eqS, ev_neS, ev_eqN, ev_neN, ev_eqNI, ev_neNI, ev_eqIN, ev_neIN, ev_eqB, ev_neB, ev_isB, ev_notB, ev_absI, ev_min2, ev_max2, ev_lenT, ev_lenL, ev_lenS, ev_tupL, ev_tupT, ev_intI, ev_intB, ev_ixT, ev_ixL, ev_ixS, at0, at1, at2, at3, atM1, ev_seq, ev_set, ev_own, ev_ret, ev_drop, ev_sIf, ev_for, ev_frz, ev_asg, ev_par2, ev_par3, ev_mVal, ev_mOwn, ev_app, ev_setv, ev_sets0, ev_sets1, ev_stv, ev_bnm, ev_btp, ev_bl0, ev_bl1, ev_R1, ev_R2, ev_iL, ev_iT, ev_itL, ev_itT, ev_forNil, ev_nolI, ev_nolN, ev_nolS, ev_nolB, ev_nolT, ev_nolL0, ev_nolL1, ev_cTrue, ev_wipe, Rz.bind_ok, Rz.bind_exc, Rz.bind_bad, Rz.ofO_some, Rz.ofO_none, onR_ok, onR_exc, onR_bad, onO_some, onO_none, List.getElem?_cons_zero, List.getElem?_cons_succ, ite_true, ite_false, if_true, if_false, reduceIte, Nat.reduceEqDiff, reduceCtorEq, Option.map_some, Option.bind_some, List.cons_append, List.nil_append, Option.map_none, Bool.false_eq_true, Bool.not_true, Bool.not_false, decide_true, decide_false, decide_eq_true_eq, beq_self_eq_true, ev_iSq, ev_itS1, ev_itS2, ev_itS3, ev_itS4, ev_iEn, ev_enS1, ev_enS2, ev_iZp, ev_zpS1, ev_zpS2, ev_Ch, ev_Sl, ev_O0, ev_O1, ev_iO, ev_slT, ev_slL, ev_Rg, ev_Rg3, ev_Ls, ev_lsT, ev_lsL, ev_Isi, ev_Isi2, ev_Rev, ev_revT, ev_Wk, ev_wkN, ev_wkT, ev_tupN, ev_CntT, ev_ctT, ev_IxT, ev_ixT', ev_IxL, ev_ixL', ev_Cnt, ev_ctL, ev_Dic, ev_dg, ev_Sub, ev_Ext, ev_trI, ev_trT, ev_trL, ev_MmD, eq_self, ev_IsE, ev_CallH, ev_unN, ev_unR, ev_TryA, ev_Try, ev_exN, ev_exR, ev_exE, ev_tyN, ev_tyR, ev_tyE, ev_Raise, ev_noxN, ev_noxR, ev_Trg, ev_Cat, w1, w2]) (Rt.iff (by simp only [ev_C, ev_Var, ev_Bor, ev_Nl, ev_Bin, ev_Tup, ev_L, ev_Fn, ev_Call, ev_nil, ev_cons, ev_If, ev_And, ev_Or, ev_Not, ev_cAnd, ev_cOr, ev_cNot, ev_cB, ev_cTr, ev_toB, ev_IsN, ev_NotN, ev_isN_non, ev_isN_int, ev_isN_str, ev_isN_tup, ev_isN_bl, ev_MulL, ev_MulR, ev_DivC, ev_ModC, ev_Neg, ev_addI, ev_subI, ev_ltI, ev_leI, ev_gtI, ev_geI, ev_eqI, ev_neI, ev_eqS, ev_neS, ev_eqN, ev_neN, ev_eqNI, ev_neNI, ev_eqIN, ev_neIN, ev_eqB, ev_neB, ev_isB, ev_notB, ev_absI, ev_min2, ev_max2, ev_lenT, ev_lenL, ev_lenS, ev_tupL, ev_tupT, ev_intI, ev_intB, ev_ixT, ev_ixL, ev_ixS, at0, at1, at2, at3, atM1, ev_seq, ev_set, ev_own, ev_ret, ev_drop, ev_sIf, ev_for, ev_frz, ev_asg, ev_par2, ev_par3, ev_mVal, ev_mOwn, ev_app, ev_setv, ev_sets0, ev_sets1, ev_stv, ev_bnm, ev_btp, ev_bl0, ev_bl1, ev_R1, ev_R2, ev_iL, ev_iT, ev_itL, ev_itT, ev_forNil, ev_nolI, ev_nolN, ev_nolS, ev_nolB, ev_nolT, ev_nolL0, ev_nolL1, ev_cTrue, ev_wipe, Rz.bind_ok, Rz.bind_exc, Rz.bind_bad, Rz.ofO_some, Rz.ofO_none, onR_ok, onR_exc, onR_bad, onO_some, onO_none, List.getElem?_cons_zero, List.getElem?_cons_succ, ite_true, ite_false, if_true, if_false, reduceIte, Nat.reduceEqDiff, reduceCtorEq, Option.map_some, Option.bind_some, List.cons_append, List.nil_append, Option.map_none, Bool.false_eq_true, Bool.not_true, Bool.not_false, decide_true, decide_false, decide_eq_true_eq, beq_self_eq_true, ev_iSq, ev_itS1, ev_itS2, ev_itS3, ev_itS4, ev_iEn, ev_enS1, ev_enS2, ev_iZp, ev_zpS1, ev_zpS2, ev_Ch, ev_Sl, ev_O0, ev_O1, ev_iO, ev_slT, ev_slL, ev_Rg, ev_Rg3, ev_Ls, ev_lsT, ev_lsL, ev_Isi, ev_Isi2, ev_Rev, ev_revT, ev_Wk, ev_wkN, ev_wkT, ev_tupN, ev_CntT, ev_ctT, ev_IxT, ev_ixT', ev_IxL, ev_ixL', ev_Cnt, ev_ctL, ev_Dic, ev_dg, ev_Sub, ev_Ext, ev_trI, ev_trT, ev_trL, ev_MmD, eq_self, ev_IsE, ev_CallH, ev_unN, ev_unR, ev_TryA, ev_Try, ev_exN, ev_exR, ev_exE, ev_tyN, ev_tyR, ev_tyE, ev_Raise, ev_noxN, ev_noxR, ev_Trg, ev_Cat, it, List.length_map, c1, c6]) (Rt.iff ?_ ?_))
      · simp only [ev_C, ev_Var, ev_Bor, ev_Nl, ev_Bin, ev_Tup, ev_L, ev_Fn, ev_Call, ev_nil, ev_cons, ev_If, ev_And, ev_Or, ev_Not, ev_cAnd, ev_cOr, ev_cNot, ev_cB, ev_cTr, ev_toB, ev_IsN, ev_NotN, ev_isN_non, ev_isN_int, ev_isN_str, ev_isN_tup, ev_isN_bl, ev_MulL, ev_MulR, ev_DivC, ev_ModC, ev_Neg, ev_addI, ev_subI, ev_ltI, ev_leI, ev_gtI, ev_geI, ev_eqI, ev_neI, ev_eqS, ev_neS, ev_eqN, ev_neN, ev_eqNI, ev_neNI, ev_eqIN, ev_neIN, ev_eqB, ev_neB, ev_isB, ev_notB, ev_absI, ev_min2, ev_max2, ev_lenT, ev_lenL, ev_lenS, ev_tupL, ev_tupT, ev_intI, ev_intB, ev_ixT, ev_ixL, ev_ixS, at0, at1, at2, at3, atM1, ev_seq, ev_set, ev_own, ev_ret, ev_drop, ev_sIf, ev_for, ev_frz, ev_asg, ev_par2, ev_par3, ev_mVal, ev_mOwn, ev_app, ev_setv, ev_sets0, ev_sets1, ev_stv, ev_bnm, ev_btp, ev_bl0, ev_bl1, ev_R1, ev_R2, ev_iL, ev_iT, ev_itL, ev_itT, ev_forNil, ev_nolI, ev_nolN, ev_nolS, ev_nolB, ev_nolT, ev_nolL0, ev_nolL1, ev_cTrue, ev_wipe, Rz.bind_ok, Rz.bind_exc, Rz.bind_bad, Rz.ofO_some, Rz.ofO_none, onR_ok, onR_exc, onR_bad, onO_some, onO_none, List.getElem?_cons_zero, List.getElem?_cons_succ, ite_true, ite_false, if_true, if_false, reduceIte, Nat.reduceEqDiff, reduceCtorEq, Option.map_some, Option.bind_some, List.cons_append, List.nil_append, Option.map_none, Bool.false_eq_true, Bool.not_true, Bool.not_false, decide_true, decide_false, decide_eq_true_eq, beq_self_eq_true, ev_iSq, ev_itS1, ev_itS2, ev_itS3, ev_itS4, ev_iEn, ev_enS1, ev_enS2, ev_iZp, ev_zpS1, ev_zpS2, ev_Ch, ev_Sl, ev_O0, ev_O1, ev_iO, ev_slT, ev_slL, ev_Rg, ev_Rg3, ev_Ls, ev_lsT, ev_lsL, ev_Isi, ev_Isi2, ev_Rev, ev_revT, ev_Wk, ev_wkN, ev_wkT, ev_tupN, ev_CntT, ev_ctT, ev_IxT, ev_ixT', ev_IxL, ev_ixL', ev_Cnt, ev_ctL, ev_Dic, ev_dg, ev_Sub, ev_Ext, ev_trI, ev_trT, ev_trL, ev_MmD, eq_self, ev_IsE, ev_CallH, ev_unN, ev_unR, ev_TryA, ev_Try, ev_exN, ev_exR, ev_exE, ev_tyN, ev_tyR, ev_tyE, ev_Raise, ev_noxN, ev_noxR, ev_Trg, ev_Cat]
        rw [lc_ok (ds := b.pw.map D.int) (by simp only [ev_C, ev_Var, ev_Bor, ev_Nl, ev_Bin, ev_Tup, ev_L, ev_Fn, ev_Call, ev_nil, ev_cons, ev_If, ev_And, ev_Or, ev_Not, ev_cAnd, ev_cOr, ev_cNot, ev_cB, ev_cTr, ev_toB, ev_IsN, ev_NotN, ev_isN_non, ev_isN_int, ev_isN_str, ev_isN_tup, ev_isN_bl, ev_MulL, ev_MulR, ev_DivC, ev_ModC, ev_Neg, ev_addI, ev_subI, ev_ltI, ev_leI, ev_gtI, ev_geI, ev_eqI, ev_neI, ev_eqS, ev_neS, ev_eqN, ev_neN, ev_eqNI, ev_neNI, ev_eqIN, ev_neIN, ev_eqB, ev_neB, ev_isB, ev_notB, ev_absI, ev_min2, ev_max2, ev_lenT, ev_lenL, ev_lenS, ev_tupL, ev_tupT, ev_intI, ev_intB, ev_ixT, ev_ixL, ev_ixS, at0, at1, at2, at3, atM1, ev_seq, ev_set, ev_own, ev_ret, ev_drop, ev_sIf, ev_for, ev_frz, ev_asg, ev_par2, ev_par3, ev_mVal, ev_mOwn, ev_app, ev_setv, ev_sets0, ev_sets1, ev_stv, ev_bnm, ev_btp, ev_bl0, ev_bl1, ev_R1, ev_R2, ev_iL, ev_iT, ev_itL, ev_itT, ev_forNil, ev_nolI, ev_nolN, ev_nolS, ev_nolB, ev_nolT, ev_nolL0, ev_nolL1, ev_cTrue, ev_wipe, Rz.bind_ok, Rz.bind_exc, Rz.bind_bad, Rz.ofO_some, Rz.ofO_none, onR_ok, onR_exc, onR_bad, onO_some, onO_none, List.getElem?_cons_zero, List.getElem?_cons_succ, ite_true, ite_false, if_true, if_false, reduceIte, Nat.reduceEqDiff, reduceCtorEq, Option.map_some, Option.bind_some, List.cons_append, List.nil_append, Option.map_none, Bool.false_eq_true, Bool.not_true, Bool.not_false, decide_true, decide_false, decide_eq_true_eq, beq_self_eq_true, ev_iSq, ev_itS1, ev_itS2, ev_itS3, ev_itS4, ev_iEn, ev_enS1, ev_enS2, ev_iZp, ev_zpS1, ev_zpS2, ev_Ch, ev_Sl, ev_O0, ev_O1, ev_iO, ev_slT, ev_slL, ev_Rg, ev_Rg3, ev_Ls, ev_lsT, ev_lsL, ev_Isi, ev_Isi2, ev_Rev, ev_revT, ev_Wk, ev_wkN, ev_wkT, ev_tupN, ev_CntT, ev_ctT, ev_IxT, ev_ixT', ev_IxL, ev_ixL', ev_Cnt, ev_ctL, ev_Dic, ev_dg, ev_Sub, ev_Ext, ev_trI, ev_trT, ev_trL, ev_MmD, eq_self, ev_IsE, ev_CallH, ev_unN, ev_unR, ev_TryA, ev_Try, ev_exN, ev_exR, ev_exE, ev_tyN, ev_tyR, ev_tyE, ev_Raise, ev_noxN, ev_noxR, ev_Trg, ev_Cat]) (by rw [List.length_map]; omega), whole_all h.pr]
        simp only [ev_C, ev_Var, ev_Bor, ev_Nl, ev_Bin, ev_Tup, ev_L, ev_Fn, ev_Call, ev_nil, ev_cons, ev_If, ev_And, ev_Or, ev_Not, ev_cAnd, ev_cOr, ev_cNot, ev_cB, ev_cTr, ev_toB, ev_IsN, ev_NotN, ev_isN_non, ev_isN_int, ev_isN_str, ev_isN_tup, ev_isN_bl, ev_MulL, ev_MulR, ev_DivC, ev_ModC, ev_Neg, ev_addI, ev_subI, ev_ltI, ev_leI, ev_gtI, ev_geI, ev_eqI, ev_neI, ev_eqS, ev_neS, ev_eqN, ev_neN, ev_eqNI, ev_neNI, ev_eqIN, ev_neIN, ev_eqB, ev_neB, ev_isB, ev_notB, ev_absI, ev_min2, ev_max2, ev_lenT, ev_lenL, ev_lenS, ev_tupL, ev_tupT, ev_intI, ev_intB, ev_ixT, ev_ixL, ev_ixS, at0, at1, at2, at3, atM1, ev_seq, ev_set, ev_own, ev_ret, ev_drop, ev_sIf, ev_for, ev_frz, ev_asg, ev_par2, ev_par3, ev_mVal, ev_mOwn, ev_app, ev_setv, ev_sets0, ev_sets1, ev_stv, ev_bnm, ev_btp, ev_bl0, ev_bl1, ev_R1, ev_R2, ev_iL, ev_iT, ev_itL, ev_itT, ev_forNil, ev_nolI, ev_nolN, ev_nolS, ev_nolB, ev_nolT, ev_nolL0, ev_nolL1, ev_cTrue, ev_wipe, Rz.bind_ok, Rz.bind_exc, Rz.bind_bad, Rz.ofO_some, Rz.ofO_none, onR_ok, onR_exc, onR_bad, onO_some, onO_none, List.getElem?_cons_zero, List.getElem?_cons_succ, ite_true, ite_false, if_true, if_false, reduceIte, Nat.reduceEqDiff, reduceCtorEq, Option.map_some, Option.bind_some, List.cons_append, List.nil_append, Option.map_none, Bool.false_eq_true, Bool.not_true, Bool.not_false, decide_true, decide_false, decide_eq_true_eq, beq_self_eq_true, ev_iSq, ev_itS1, ev_itS2, ev_itS3, ev_itS4, ev_iEn, ev_enS1, ev_enS2, ev_iZp, ev_zpS1, ev_zpS2, ev_Ch, ev_Sl, ev_O0, ev_O1, ev_iO, ev_slT, ev_slL, ev_Rg, ev_Rg3, ev_Ls, ev_lsT, ev_lsL, ev_Isi, ev_Isi2, ev_Rev, ev_revT, ev_Wk, ev_wkN, ev_wkT, ev_tupN, ev_CntT, ev_ctT, ev_IxT, ev_ixT', ev_IxL, ev_ixL', ev_Cnt, ev_ctL, ev_Dic, ev_dg, ev_Sub, ev_Ext, ev_trI, ev_trT, ev_trL, ev_MmD, eq_self, ev_IsE, ev_CallH, ev_unN, ev_unR, ev_TryA, ev_Try, ev_exN, ev_exR, ev_exE, ev_tyN, ev_tyR, ev_tyE, ev_Raise, ev_noxN, ev_noxR, ev_Trg, ev_Cat, allD, all_true, all_id]
      · exact hk _ (by simp only [ev_C, ev_Var, ev_Bor, ev_Nl, ev_Bin, ev_Tup, ev_L, ev_Fn, ev_Call, ev_nil, ev_cons, ev_If, ev_And, ev_Or, ev_Not, ev_cAnd, ev_cOr, ev_cNot, ev_cB, ev_cTr, ev_toB, ev_IsN, ev_NotN, ev_isN_non, ev_isN_int, ev_isN_str, ev_isN_tup, ev_isN_bl, ev_MulL, ev_MulR, ev_DivC, ev_ModC, ev_Neg, ev_addI, ev_subI, ev_ltI, ev_leI, ev_gtI, ev_geI, ev_eqI, ev_neI, ev_eqS, ev_neS, ev_eqN, ev_neN, ev_eqNI, ev_neNI, ev_eqIN, ev_neIN, ev_eqB, ev_neB, ev_isB, ev_notB, ev_absI, ev_min2, ev_max2, ev_lenT, ev_lenL, ev_lenS, ev_tupL, ev_tupT, ev_intI, ev_intB, ev_ixT, ev_ixL, ev_ixS, at0, at1, at2, at3, atM1, ev_seq, ev_set, ev_own, ev_ret, ev_drop, ev_sIf, ev_for, ev_frz, ev_asg, ev_par2, ev_par3, ev_mVal, ev_mOwn, ev_app, ev_setv, ev_sets0, ev_sets1, ev_stv, ev_bnm, ev_btp, ev_bl0, ev_bl1, ev_R1, ev_R2, ev_iL, ev_iT, ev_itL, ev_itT, ev_forNil, ev_nolI, ev_nolN, ev_nolS, ev_nolB, ev_nolT, ev_nolL0, ev_nolL1, ev_cTrue, ev_wipe, Rz.bind_ok, Rz.bind_exc, Rz.bind_bad, Rz.ofO_some, Rz.ofO_none, onR_ok, onR_exc, onR_bad, onO_some, onO_none, List.getElem?_cons_zero, List.getElem?_cons_succ, ite_true, ite_false, if_true, if_false, reduceIte, Nat.reduceEqDiff, reduceCtorEq, Option.map_some, Option.bind_some, List.cons_append, List.nil_append, Option.map_none, Bool.false_eq_true, Bool.not_true, Bool.not_false, decide_true, decide_false, decide_eq_true_eq, beq_self_eq_true, ev_iSq, ev_itS1, ev_itS2, ev_itS3, ev_itS4, ev_iEn, ev_enS1, ev_enS2, ev_iZp, ev_zpS1, ev_zpS2, ev_Ch, ev_Sl, ev_O0, ev_O1, ev_iO, ev_slT, ev_slL, ev_Rg, ev_Rg3, ev_Ls, ev_lsT, ev_lsL, ev_Isi, ev_Isi2, ev_Rev, ev_revT, ev_Wk, ev_wkN, ev_wkT, ev_tupN, ev_CntT, ev_ctT, ev_IxT, ev_ixT', ev_IxL, ev_ixL', ev_Cnt, ev_ctL, ev_Dic, ev_dg, ev_Sub, ev_Ext, ev_trI, ev_trT, ev_trL, ev_MmD, eq_self, ev_IsE, ev_CallH, ev_unN, ev_unR, ev_TryA, ev_Try, ev_exN, ev_exR, ev_exE, ev_tyN, ev_tyR, ev_tyE, ev_Raise, ev_noxN, ev_noxR, ev_Trg, ev_Cat]) (by simp only [ev_C, ev_Var, ev_Bor, ev_Nl, ev_Bin, ev_Tup, ev_L, ev_Fn, ev_Call, ev_nil, ev_cons, ev_If, ev_And, ev_Or, ev_Not, ev_cAnd, ev_cOr, ev_cNot, ev_cB, ev_cTr, ev_toB, ev_IsN, ev_NotN, ev_isN_non, ev_isN_int, ev_isN_str, ev_isN_tup, ev_isN_bl, ev_MulL, ev_MulR, ev_DivC, ev_ModC, ev_Neg, ev_addI, ev_subI, ev_ltI, ev_leI, ev_gtI, ev_geI, ev_eqI, ev_neI, ev_eqS, ev_neS, ev_eqN, ev_neN, ev_eqNI, ev_neNI, ev_eqIN, ev_neIN, ev_eqB, ev_neB, ev_isB, ev_notB, ev_absI, ev_min2, ev_max2, ev_lenT, ev_lenL, ev_lenS, ev_tupL, ev_tupT, ev_intI, ev_intB, ev_ixT, ev_ixL, ev_ixS, at0, at1, at2, at3, atM1, ev_seq, ev_set, ev_own, ev_ret, ev_drop, ev_sIf, ev_for, ev_frz, ev_asg, ev_par2, ev_par3, ev_mVal, ev_mOwn, ev_app, ev_setv, ev_sets0, ev_sets1, ev_stv, ev_bnm, ev_btp, ev_bl0, ev_bl1, ev_R1, ev_R2, ev_iL, ev_iT, ev_itL, ev_itT, ev_forNil, ev_nolI, ev_nolN, ev_nolS, ev_nolB, ev_nolT, ev_nolL0, ev_nolL1, ev_cTrue, ev_wipe, Rz.bind_ok, Rz.bind_exc, Rz.bind_bad, Rz.ofO_some, Rz.ofO_none, onR_ok, onR_exc, onR_bad, onO_some, onO_none, List.getElem?_cons_zero, List.getElem?_cons_succ, ite_true, ite_false, if_true, if_false, reduceIte, Nat.reduceEqDiff, reduceCtorEq, Option.map_some, Option.bind_some, List.cons_append, List.nil_append, Option.map_none, Bool.false_eq_true, Bool.not_true, Bool.not_false, decide_true, decide_false, decide_eq_true_eq, beq_self_eq_true, ev_iSq, ev_itS1, ev_itS2, ev_itS3, ev_itS4, ev_iEn, ev_enS1, ev_enS2, ev_iZp, ev_zpS1, ev_zpS2, ev_Ch, ev_Sl, ev_O0, ev_O1, ev_iO, ev_slT, ev_slL, ev_Rg, ev_Rg3, ev_Ls, ev_lsT, ev_lsL, ev_Isi, ev_Isi2, ev_Rev, ev_revT, ev_Wk, ev_wkN, ev_wkT, ev_tupN, ev_CntT, ev_ctT, ev_IxT, ev_ixT', ev_IxL, ev_ixL', ev_Cnt, ev_ctL, ev_Dic, ev_dg, ev_Sub, ev_Ext, ev_trI, ev_trT, ev_trL, ev_MmD, eq_self, ev_IsE, ev_CallH, ev_unN, ev_unR, ev_TryA, ev_Try, ev_exN, ev_exR, ev_exE, ev_tyN, ev_tyR, ev_tyE, ev_Raise, ev_noxN, ev_noxR, ev_Trg, ev_Cat]) (by simp only [ev_C, ev_Var, ev_Bor, ev_Nl, ev_Bin, ev_Tup, ev_L, ev_Fn, ev_Call, ev_nil, ev_cons, ev_If, ev_And, ev_Or, ev_Not, ev_cAnd, ev_cOr, ev_cNot, ev_cB, ev_cTr, ev_toB, ev_IsN, ev_NotN, ev_isN_non, ev_isN_int, ev_isN_str, ev_isN_tup, ev_isN_bl, ev_MulL, ev_MulR, ev_DivC, ev_ModC, ev_Neg, ev_addI, ev_subI, ev_ltI, ev_leI, ev_gtI, ev_geI, ev_eqI, ev_neI, ev_eqS, ev_neS, ev_eqN, ev_neN, ev_eqNI, ev_neNI, ev_eqIN, ev_neIN, ev_eqB, ev_neB, ev_isB, ev_notB, ev_absI, ev_min2, ev_max2, ev_lenT, ev_lenL, ev_lenS, ev_tupL, ev_tupT, ev_intI, ev_intB, ev_ixT, ev_ixL, ev_ixS, at0, at1, at2, at3, atM1, ev_seq, ev_set, ev_own, ev_ret, ev_drop, ev_sIf, ev_for, ev_frz, ev_asg, ev_par2, ev_par3, ev_mVal, ev_mOwn, ev_app, ev_setv, ev_sets0, ev_sets1, ev_stv, ev_bnm, ev_btp, ev_bl0, ev_bl1, ev_R1, ev_R2, ev_iL, ev_iT, ev_itL, ev_itT, ev_forNil, ev_nolI, ev_nolN, ev_nolS, ev_nolB, ev_nolT, ev_nolL0, ev_nolL1, ev_cTrue, ev_wipe, Rz.bind_ok, Rz.bind_exc, Rz.bind_bad, Rz.ofO_some, Rz.ofO_none, onR_ok, onR_exc, onR_bad, onO_some, onO_none, List.getElem?_cons_zero, List.getElem?_cons_succ, ite_true, ite_false, if_true, if_false, reduceIte, Nat.reduceEqDiff, reduceCtorEq, Option.map_some, Option.bind_some, List.cons_append, List.nil_append, Option.map_none, Bool.false_eq_true, Bool.not_true, Bool.not_false, decide_true, decide_false, decide_eq_true_eq, beq_self_eq_true, ev_iSq, ev_itS1, ev_itS2, ev_itS3, ev_itS4, ev_iEn, ev_enS1, ev_enS2, ev_iZp, ev_zpS1, ev_zpS2, ev_Ch, ev_Sl, ev_O0, ev_O1, ev_iO, ev_slT, ev_slL, ev_Rg, ev_Rg3, ev_Ls, ev_lsT, ev_lsL, ev_Isi, ev_Isi2, ev_Rev, ev_revT, ev_Wk, ev_wkN, ev_wkT, ev_tupN, ev_CntT, ev_ctT, ev_IxT, ev_ixT', ev_IxL, ev_ixL', ev_Cnt, ev_ctL, ev_Dic, ev_dg, ev_Sub, ev_Ext, ev_trI, ev_trT, ev_trL, ev_MmD, eq_self, ev_IsE, ev_CallH, ev_unN, ev_unR, ev_TryA, ev_Try, ev_exN, ev_exR, ev_exE, ev_tyN, ev_tyR, ev_tyE, ev_Raise, ev_noxN, ev_noxR, ev_Trg, ev_Cat])
    have rg : ∀ e : En, e.v 3 = .val (.tup (b.pw.map D.int)) → iR2 (eC (.int 1)) (eFn lenD [(eVar 3)]) e = .ok (rngD ((1 : Nat) : Int) (b.pw.length - 1)) := by
      intro e h3
      simp only [ev_C, ev_Var, ev_Bor, ev_Nl, ev_Bin, ev_Tup, ev_L, ev_Fn, ev_Call, ev_nil, ev_cons, ev_If, ev_And, ev_Or, ev_Not, ev_cAnd, ev_cOr, ev_cNot, ev_cB, ev_cTr, ev_toB, ev_IsN, ev_NotN, ev_isN_non, ev_isN_int, ev_isN_str, ev_isN_tup, ev_isN_bl, ev_MulL, ev_MulR, ev_DivC, ev_ModC, ev_Neg, ev_addI, ev_subI, ev_ltI, ev_leI, ev_gtI, ev_geI, ev_eqI, ev_neI, ev_eqS, ev_neS, ev_eqN, ev_neN, ev_eqNI, ev_neNI, ev_eqIN, ev_neIN, ev_eqB, ev_neB, ev_isB, ev_notB, ev_absI, ev_min2, ev_max2, ev_lenT, ev_lenL, ev_lenS, ev_tupL, ev_tupT, ev_intI, ev_intB, ev_ixT, ev_ixL, ev_ixS, at0, at1, at2, at3, atM1, ev_seq, ev_set, ev_own, ev_ret, ev_drop, ev_sIf, ev_for, ev_frz, ev_asg, ev_par2, ev_par3, ev_mVal, ev_mOwn, ev_app, ev_setv, ev_sets0, ev_sets1, ev_stv, ev_bnm, ev_btp, ev_bl0, ev_bl1, ev_R1, ev_R2, ev_iL, ev_iT, ev_itL, ev_itT, ev_forNil, ev_nolI, ev_nolN, ev_nolS, ev_nolB, ev_nolT, ev_nolL0, ev_nolL1, ev_cTrue, ev_wipe, Rz.bind_ok, Rz.bind_exc, Rz.bind_bad, Rz.ofO_some, Rz.ofO_none, onR_ok, onR_exc, onR_bad, onO_some, onO_none, List.getElem?_cons_zero, List.getElem?_cons_succ, ite_true, ite_false, if_true, if_false, reduceIte, Nat.reduceEqDiff, reduceCtorEq, Option.map_some, Option.bind_some, List.cons_append, List.nil_append, Option.map_none, Bool.false_eq_true, Bool.not_true, Bool.not_false, decide_true, decide_false, decide_eq_true_eq, beq_self_eq_true, ev_iSq, ev_itS1, ev_itS2, ev_itS3, ev_itS4, ev_iEn, ev_enS1, ev_enS2, ev_iZp, ev_zpS1, ev_zpS2, ev_Ch, ev_Sl, ev_O0, ev_O1, ev_iO, ev_slT, ev_slL, ev_Rg, ev_Rg3, ev_Ls, ev_lsT, ev_lsL, ev_Isi, ev_Isi2, ev_Rev, ev_revT, ev_Wk, ev_wkN, ev_wkT, ev_tupN, ev_CntT, ev_ctT, ev_IxT, ev_ixT', ev_IxL, ev_ixL', ev_Cnt, ev_ctL, ev_Dic, ev_dg, ev_Sub, ev_Ext, ev_trI, ev_trT, ev_trL, ev_MmD, eq_self, ev_IsE, ev_CallH, ev_unN, ev_unR, ev_TryA, ev_Try, ev_exN, ev_exR, ev_exE, ev_tyN, ev_tyR, ev_tyE, ev_Raise, ev_noxN, ev_noxR, ev_Trg, ev_Cat, h3, List.length_map]
      rw [rg2_ok (by omega) (by omega) (by omega) (by omega)]
      congr 2
      omega
    by_cases g : ∀ i, i + 1 < b.pw.length → b.gd i
    · refine ⟨true, key fun e h1 h2 h3 => ?_, fun _ => ⟨h.f1, h.f2, h.l1, h.l2, n1, h.n2, h.pr, fun i hi => (g i hi).1, fun i hi => (g i hi).2, h.w1, h.w2⟩, fun _ => rfl⟩
      rcases ib_loop h (b.pw.length - 1) 1 e (by omega) (by omega) h1 h2 h3 with ⟨e', a1, _⟩ | ⟨e', a1, i, hi, ng⟩
      · exact Rt.for (rg e h3) a1 (Rt.ret (by simp only [ev_C, ev_Var, ev_Bor, ev_Nl, ev_Bin, ev_Tup, ev_L, ev_Fn, ev_Call, ev_nil, ev_cons, ev_If, ev_And, ev_Or, ev_Not, ev_cAnd, ev_cOr, ev_cNot, ev_cB, ev_cTr, ev_toB, ev_IsN, ev_NotN, ev_isN_non, ev_isN_int, ev_isN_str, ev_isN_tup, ev_isN_bl, ev_MulL, ev_MulR, ev_DivC, ev_ModC, ev_Neg, ev_addI, ev_subI, ev_ltI, ev_leI, ev_gtI, ev_geI, ev_eqI, ev_neI, ev_eqS, ev_neS, ev_eqN, ev_neN, ev_eqNI, ev_neNI, ev_eqIN, ev_neIN, ev_eqB, ev_neB, ev_isB, ev_notB, ev_absI, ev_min2, ev_max2, ev_lenT, ev_lenL, ev_lenS, ev_tupL, ev_tupT, ev_intI, ev_intB, ev_ixT, ev_ixL, ev_ixS, at0, at1, at2, at3, atM1, ev_seq, ev_set, ev_own, ev_ret, ev_drop, ev_sIf, ev_for, ev_frz, ev_asg, ev_par2, ev_par3, ev_mVal, ev_mOwn, ev_app, ev_setv, ev_sets0, ev_sets1, ev_stv, ev_bnm, ev_btp, ev_bl0, ev_bl1, ev_R1, ev_R2, ev_iL, ev_iT, ev_itL, ev_itT, ev_forNil, ev_nolI, ev_nolN, ev_nolS, ev_nolB, ev_nolT, ev_nolL0, ev_nolL1, ev_cTrue, ev_wipe, Rz.bind_ok, Rz.bind_exc, Rz.bind_bad, Rz.ofO_some, Rz.ofO_none, onR_ok, onR_exc, onR_bad, onO_some, onO_none, List.getElem?_cons_zero, List.getElem?_cons_succ, ite_true, ite_false, if_true, if_false, reduceIte, Nat.reduceEqDiff, reduceCtorEq, Option.map_some, Option.bind_some, List.cons_append, List.nil_append, Option.map_none, Bool.false_eq_true, Bool.not_true, Bool.not_false, decide_true, decide_false, decide_eq_true_eq, beq_self_eq_true, ev_iSq, ev_itS1, ev_itS2, ev_itS3, ev_itS4, ev_iEn, ev_enS1, ev_enS2, ev_iZp, ev_zpS1, ev_zpS2, ev_Ch, ev_Sl, ev_O0, ev_O1, ev_iO, ev_slT, ev_slL, ev_Rg, ev_Rg3, ev_Ls, ev_lsT, ev_lsL, ev_Isi, ev_Isi2, ev_Rev, ev_revT, ev_Wk, ev_wkN, ev_wkT, ev_tupN, ev_CntT, ev_ctT, ev_IxT, ev_ixT', ev_IxL, ev_ixL', ev_Cnt, ev_ctL, ev_Dic, ev_dg, ev_Sub, ev_Ext, ev_trI, ev_trT, ev_trL, ev_MmD, eq_self, ev_IsE, ev_CallH, ev_unN, ev_unR, ev_TryA, ev_Try, ev_exN, ev_exR, ev_exE, ev_tyN, ev_tyR, ev_tyE, ev_Raise, ev_noxN, ev_noxR, ev_Trg, ev_Cat]))
      · exact absurd (g i hi) ng
    · refine ⟨false, key fun e h1 h2 h3 => ?_, ⟨fun z => Bool.noConfusion z, fun ok => absurd (fun i hi => ⟨ok.ri i hi, ok.ch i hi⟩) g⟩⟩
      rcases ib_loop h (b.pw.length - 1) 1 e (by omega) (by omega) h1 h2 h3 with ⟨e', a1, a2⟩ | ⟨e', a1, _⟩
      · exact absurd (fun i hi => a2 i (by omega) hi) g
      · refine Rt.now ⟨e', ?_⟩
        unfold sFor
        rw [rg e h3]
        exact a1
  · refine ⟨false, ?_, ⟨fun z => Bool.noConfusion z, fun ok => absurd ok.n1 n1⟩⟩
    have c1 : ¬ (1 : Int) ≤ b.pw.length := by omega
    refine fnD_of (Rt.iff (by simp only [ev_C, ev_Var, ev_Bor, ev_Nl, ev_Bin, ev_Tup, ev_L, ev_Fn, ev_Call, ev_nil, ev_cons, ev_If, ev_And, ev_Or, ev_Not, ev_cAnd, ev_cOr, ev_cNot, ev_cB, ev_cTr, ev_toB, ev_IsN, ev_NotN, ev_isN_non, ev_isN_int, ev_isN_str, ev_isN_tup, ev_isN_bl, ev_MulL, ev_MulR, ev_DivC, ev_ModC, ev_Neg, ev_addI, ev_subI, ev_ltI, ev_leI, ev_gtI, ev_geI, ev_eqI, ev_neI, ev_eqS, ev_neS, ev_eqN, ev_neN, ev_eqNI, ev_neNI, ev_eqIN, ev_neIN, ev_eqB, ev_neB, ev_isB, ev_notB, ev_absI, ev_min2, ev_max2, ev_lenT, ev_lenL, ev_lenS, ev_tupL, ev_tupT, ev_intI, ev_intB, ev_ixT, ev_ixL, ev_ixS, at0, at1, at2, at3, atM1, ev_seq, ev_set, ev_own, ev_ret, ev_drop, ev_sIf, ev_for, ev_frz, ev_asg, ev_par2, ev_par3, ev_mVal, ev_mOwn, ev_app, ev_setv, ev_sets0, ev_sets1, ev_stv, ev_bnm, ev_btp, ev_bl0, ev_bl1, ev_R1, ev_R2, ev_iL, ev_iT, ev_itL, ev_itT, ev_forNil, ev_nolI, ev_nolN, ev_nolS, ev_nolB, ev_nolT, ev_nolL0, ev_nolL1, ev_cTrue, ev_wipe, Rz.bind_ok, Rz.bind_exc, Rz.bind_bad, Rz.ofO_some, Rz.ofO_none, onR_ok, onR_exc, onR_bad, onO_some, onO_none, List.getElem?_cons_zero, List.getElem?_cons_succ, ite_true, ite_false, if_true, if_false, reduceIte, Nat.reduceEqDiff, reduceCtorEq, Option.map_some, Option.bind_some, List.cons_append, List.nil_append, Option.map_none, Bool.false_eq_true, Bool.not_true, Bool.not_false, decide_true, decide_false, decide_eq_true_eq, beq_self_eq_true, ev_iSq, ev_itS1, ev_itS2, ev_itS3, ev_itS4, ev_iEn, ev_enS1, ev_enS2, ev_iZp, ev_zpS1, ev_zpS2, ev_Ch, ev_Sl, ev_O0, ev_O1, ev_iO, ev_slT, ev_slL, ev_Rg, ev_Rg3, ev_Ls, ev_lsT, ev_lsL, ev_Isi, ev_Isi2, ev_Rev, ev_revT, ev_Wk, ev_wkN, ev_wkT, ev_tupN, ev_CntT, ev_ctT, ev_IxT, ev_ixT', ev_IxL, ev_ixL', ev_Cnt, ev_ctL, ev_Dic, ev_dg, ev_Sub, ev_Ext, ev_trI, ev_trT, ev_trL, ev_MmD, eq_self, ev_IsE, ev_CallH, ev_unN, ev_unR, ev_TryA, ev_Try, ev_exN, ev_exR, ev_exE, ev_tyN, ev_tyR, ev_tyE, ev_Raise, ev_noxN, ev_noxR, ev_Trg, ev_Cat, it, bd0, w0, Book.d, List.length_cons, List.length_nil]; rfl) ?_)
    refine Rt.seq (e1 := _) (by simp only [ev_C, ev_Var, ev_Bor, ev_Nl, ev_Bin, ev_Tup, ev_L, ev_Fn, ev_Call, ev_nil, ev_cons, ev_If, ev_And, ev_Or, ev_Not, ev_cAnd, ev_cOr, ev_cNot, ev_cB, ev_cTr, ev_toB, ev_IsN, ev_NotN, ev_isN_non, ev_isN_int, ev_isN_str, ev_isN_tup, ev_isN_bl, ev_MulL, ev_MulR, ev_DivC, ev_ModC, ev_Neg, ev_addI, ev_subI, ev_ltI, ev_leI, ev_gtI, ev_geI, ev_eqI, ev_neI, ev_eqS, ev_neS, ev_eqN, ev_neN, ev_eqNI, ev_neNI, ev_eqIN, ev_neIN, ev_eqB, ev_neB, ev_isB, ev_notB, ev_absI, ev_min2, ev_max2, ev_lenT, ev_lenL, ev_lenS, ev_tupL, ev_tupT, ev_intI, ev_intB, ev_ixT, ev_ixL, ev_ixS, at0, at1, at2, at3, atM1, ev_seq, ev_set, ev_own, ev_ret, ev_drop, ev_sIf, ev_for, ev_frz, ev_asg, ev_par2, ev_par3, ev_mVal, ev_mOwn, ev_app, ev_setv, ev_sets0, ev_sets1, ev_stv, ev_bnm, ev_btp, ev_bl0, ev_bl1, ev_R1, ev_R2, ev_iL, ev_iT, ev_itL, ev_itT, ev_forNil, ev_nolI, ev_nolN, ev_nolS, ev_nolB, ev_nolT, ev_nolL0, ev_nolL1, ev_cTrue, ev_wipe, Rz.bind_ok, Rz.bind_exc, Rz.bind_bad, Rz.ofO_some, Rz.ofO_none, onR_ok, onR_exc, onR_bad, onO_some, onO_none, List.getElem?_cons_zero, List.getElem?_cons_succ, ite_true, ite_false, if_true, if_false, reduceIte, Nat.reduceEqDiff, reduceCtorEq, Option.map_some, Option.bind_some, List.cons_append, List.nil_append, Option.map_none, Bool.false_eq_true, Bool.not_true, Bool.not_false, decide_true, decide_false, decide_eq_true_eq, beq_self_eq_true, ev_iSq, ev_itS1, ev_itS2, ev_itS3, ev_itS4, ev_iEn, ev_enS1, ev_enS2, ev_iZp, ev_zpS1, ev_zpS2, ev_Ch, ev_Sl, ev_O0, ev_O1, ev_iO, ev_slT, ev_slL, ev_Rg, ev_Rg3, ev_Ls, ev_lsT, ev_lsL, ev_Isi, ev_Isi2, ev_Rev, ev_revT, ev_Wk, ev_wkN, ev_wkT, ev_tupN, ev_CntT, ev_ctT, ev_IxT, ev_ixT', ev_IxL, ev_ixL', ev_Cnt, ev_ctL, ev_Dic, ev_dg, ev_Sub, ev_Ext, ev_trI, ev_trT, ev_trL, ev_MmD, eq_self, ev_IsE, ev_CallH, ev_unN, ev_unR, ev_TryA, ev_Try, ev_exN, ev_exR, ev_exE, ev_tyN, ev_tyR, ev_tyE, ev_Raise, ev_noxN, ev_noxR, ev_Trg, ev_Cat, Book.d]; rfl) ?_
    exact Rt.iff (by simp only [ev_C, ev_Var, ev_Bor, ev_Nl, ev_Bin, ev_Tup, ev_L, ev_Fn, ev_Call, ev_nil, ev_cons, ev_If, ev_And, ev_Or, ev_Not, ev_cAnd, ev_cOr, ev_cNot, ev_cB, ev_cTr, ev_toB, ev_IsN, ev_NotN, ev_isN_non, ev_isN_int, ev_isN_str, ev_isN_tup, ev_isN_bl, ev_MulL, ev_MulR, ev_DivC, ev_ModC, ev_Neg, ev_addI, ev_subI, ev_ltI, ev_leI, ev_gtI, ev_geI, ev_eqI, ev_neI, ev_eqS, ev_neS, ev_eqN, ev_neN, ev_eqNI, ev_neNI, ev_eqIN, ev_neIN, ev_eqB, ev_neB, ev_isB, ev_notB, ev_absI, ev_min2, ev_max2, ev_lenT, ev_lenL, ev_lenS, ev_tupL, ev_tupT, ev_intI, ev_intB, ev_ixT, ev_ixL, ev_ixS, at0, at1, at2, at3, atM1, ev_seq, ev_set, ev_own, ev_ret, ev_drop, ev_sIf, ev_for, ev_frz, ev_asg, ev_par2, ev_par3, ev_mVal, ev_mOwn, ev_app, ev_setv, ev_sets0, ev_sets1, ev_stv, ev_bnm, ev_btp, ev_bl0, ev_bl1, ev_R1, ev_R2, ev_iL, ev_iT, ev_itL, ev_itT, ev_forNil, ev_nolI, ev_nolN, ev_nolS, ev_nolB, ev_nolT, ev_nolL0, ev_nolL1, ev_cTrue, ev_wipe, Rz.bind_ok, Rz.bind_exc, Rz.bind_bad, Rz.ofO_some, Rz.ofO_none, onR_ok, onR_exc, onR_bad, onO_some, onO_none, List.getElem?_cons_zero, List.getElem?_cons_succ, ite_true, ite_false, if_true, if_false, reduceIte, Nat.reduceEqDiff, reduceCtorEq, Option.map_some, Option.bind_some, List.cons_append, List.nil_append, Option.map_none, Bool.false_eq_true, Bool.not_true, Bool.not_false, decide_true, decide_false, decide_eq_true_eq, beq_self_eq_true, ev_iSq, ev_itS1, ev_itS2, ev_itS3, ev_itS4, ev_iEn, ev_enS1, ev_enS2, ev_iZp, ev_zpS1, ev_zpS2, ev_Ch, ev_Sl, ev_O0, ev_O1, ev_iO, ev_slT, ev_slL, ev_Rg, ev_Rg3, ev_Ls, ev_lsT, ev_lsL, ev_Isi, ev_Isi2, ev_Rev, ev_revT, ev_Wk, ev_wkN, ev_wkT, ev_tupN, ev_CntT, ev_ctT, ev_IxT, ev_ixT', ev_IxL, ev_ixL', ev_Cnt, ev_ctL, ev_Dic, ev_dg, ev_Sub, ev_Ext, ev_trI, ev_trT, ev_trL, ev_MmD, eq_self, ev_IsE, ev_CallH, ev_unN, ev_unR, ev_TryA, ev_Try, ev_exN, ev_exR, ev_exE, ev_tyN, ev_tyR, ev_tyE, ev_Raise, ev_noxN, ev_noxR, ev_Trg, ev_Cat, w1, w2]) (Rt.ift (by simp only [ev_C, ev_Var, ev_Bor, ev_Nl, ev_Bin, ev_Tup, ev_L, ev_Fn, ev_Call, ev_nil, ev_cons, ev_If, ev_And, ev_Or, ev_Not, ev_cAnd, ev_cOr, ev_cNot, ev_cB, ev_cTr, ev_toB, ev_IsN, ev_NotN, ev_isN_non, ev_isN_int, ev_isN_str, ev_isN_tup, ev_isN_bl, ev_MulL, ev_MulR, ev_DivC, ev_ModC, ev_Neg, ev_addI, ev_subI, ev_ltI, ev_leI, ev_gtI, ev_geI, ev_eqI, ev_neI, ev_eqS, ev_neS, ev_eqN, ev_neN, ev_eqNI, ev_neNI, ev_eqIN, ev_neIN, ev_eqB, ev_neB, ev_isB, ev_notB, ev_absI, ev_min2, ev_max2, ev_lenT, ev_lenL, ev_lenS, ev_tupL, ev_tupT, ev_intI, ev_intB, ev_ixT, ev_ixL, ev_ixS, at0, at1, at2, at3, atM1, ev_seq, ev_set, ev_own, ev_ret, ev_drop, ev_sIf, ev_for, ev_frz, ev_asg, ev_par2, ev_par3, ev_mVal, ev_mOwn, ev_app, ev_setv, ev_sets0, ev_sets1, ev_stv, ev_bnm, ev_btp, ev_bl0, ev_bl1, ev_R1, ev_R2, ev_iL, ev_iT, ev_itL, ev_itT, ev_forNil, ev_nolI, ev_nolN, ev_nolS, ev_nolB, ev_nolT, ev_nolL0, ev_nolL1, ev_cTrue, ev_wipe, Rz.bind_ok, Rz.bind_exc, Rz.bind_bad, Rz.ofO_some, Rz.ofO_none, onR_ok, onR_exc, onR_bad, onO_some, onO_none, List.getElem?_cons_zero, List.getElem?_cons_succ, ite_true, ite_false, if_true, if_false, reduceIte, Nat.reduceEqDiff, reduceCtorEq, Option.map_some, Option.bind_some, List.cons_append, List.nil_append, Option.map_none, Bool.false_eq_true, Bool.not_true, Bool.not_false, decide_true, decide_false, decide_eq_true_eq, beq_self_eq_true, ev_iSq, ev_itS1, ev_itS2, ev_itS3, ev_itS4, ev_iEn, ev_enS1, ev_enS2, ev_iZp, ev_zpS1, ev_zpS2, ev_Ch, ev_Sl, ev_O0, ev_O1, ev_iO, ev_slT, ev_slL, ev_Rg, ev_Rg3, ev_Ls, ev_lsT, ev_lsL, ev_Isi, ev_Isi2, ev_Rev, ev_revT, ev_Wk, ev_wkN, ev_wkT, ev_tupN, ev_CntT, ev_ctT, ev_IxT, ev_ixT', ev_IxL, ev_ixL', ev_Cnt, ev_ctL, ev_Dic, ev_dg, ev_Sub, ev_Ext, ev_trI, ev_trT, ev_trL, ev_MmD, eq_self, ev_IsE, ev_CallH, ev_unN, ev_unR, ev_TryA, ev_Try, ev_exN, ev_exR, ev_exE, ev_tyN, ev_tyR, ev_tyE, ev_Raise, ev_noxN, ev_noxR, ev_Trg, ev_Cat, it, List.length_map, c1]) (Rt.ret (by simp only [ev_C, ev_Var, ev_Bor, ev_Nl, ev_Bin, ev_Tup, ev_L, ev_Fn, ev_Call, ev_nil, ev_cons, ev_If, ev_And, ev_Or, ev_Not, ev_cAnd, ev_cOr, ev_cNot, ev_cB, ev_cTr, ev_toB, ev_IsN, ev_NotN, ev_isN_non, ev_isN_int, ev_isN_str, ev_isN_tup, ev_isN_bl, ev_MulL, ev_MulR, ev_DivC, ev_ModC, ev_Neg, ev_addI, ev_subI, ev_ltI, ev_leI, ev_gtI, ev_geI, ev_eqI, ev_neI, ev_eqS, ev_neS, ev_eqN, ev_neN, ev_eqNI, ev_neNI, ev_eqIN, ev_neIN, ev_eqB, ev_neB, ev_isB, ev_notB, ev_absI, ev_min2, ev_max2, ev_lenT, ev_lenL, ev_lenS, ev_tupL, ev_tupT, ev_intI, ev_intB, ev_ixT, ev_ixL, ev_ixS, at0, at1, at2, at3, atM1, ev_seq, ev_set, ev_own, ev_ret, ev_drop, ev_sIf, ev_for, ev_frz, ev_asg, ev_par2, ev_par3, ev_mVal, ev_mOwn, ev_app, ev_setv, ev_sets0, ev_sets1, ev_stv, ev_bnm, ev_btp, ev_bl0, ev_bl1, ev_R1, ev_R2, ev_iL, ev_iT, ev_itL, ev_itT, ev_forNil, ev_nolI, ev_nolN, ev_nolS, ev_nolB, ev_nolT, ev_nolL0, ev_nolL1, ev_cTrue, ev_wipe, Rz.bind_ok, Rz.bind_exc, Rz.bind_bad, Rz.ofO_some, Rz.ofO_none, onR_ok, onR_exc, onR_bad, onO_some, onO_none, List.getElem?_cons_zero, List.getElem?_cons_succ, ite_true, ite_false, if_true, if_false, reduceIte, Nat.reduceEqDiff, reduceCtorEq, Option.map_some, Option.bind_some, List.cons_append, List.nil_append, Option.map_none, Bool.false_eq_true, Bool.not_true, Bool.not_false, decide_true, decide_false, decide_eq_true_eq, beq_self_eq_true, ev_iSq, ev_itS1, ev_itS2, ev_itS3, ev_itS4, ev_iEn, ev_enS1, ev_enS2, ev_iZp, ev_zpS1, ev_zpS2, ev_Ch, ev_Sl, ev_O0, ev_O1, ev_iO, ev_slT, ev_slL, ev_Rg, ev_Rg3, ev_Ls, ev_lsT, ev_lsL, ev_Isi, ev_Isi2, ev_Rev, ev_revT, ev_Wk, ev_wkN, ev_wkT, ev_tupN, ev_CntT, ev_ctT, ev_IxT, ev_ixT', ev_IxL, ev_ixL', ev_Cnt, ev_ctL, ev_Dic, ev_dg, ev_Sub, ev_Ext, ev_trI, ev_trT, ev_trL, ev_MmD, eq_self, ev_IsE, ev_CallH, ev_unN, ev_unR, ev_TryA, ev_Try, ev_exN, ev_exR, ev_exE, ev_tyN, ev_tyR, ev_tyE, ev_Raise, ev_noxN, ev_noxR, ev_Trg, ev_Cat])))
end Law
set_option Elab.async false
set_option linter.all false
set_option maxRecDepth 100000
set_option maxHeartbeats 4000000
namespace Law
open PySem G L2
/-! ### odd things -/
def od : Nat → D → Bool
  | 0, _ => false
  | _ + 1, .non => true
  | _ + 1, .bl _ => true
  | _ + 1, .int _ => true
  | _ + 1, .str x => PyData.strOk x
  | k + 1, .tup ds => ds.all (od k) && decide (ds.length ≤ 1000)
  | k + 1, .lst ds => ds.all (od k) && decide (ds.length ≤ 1000)
  | _ + 1, _ => false
def wh : D → Int → Int → Bool
  | .int x, lo, hi => decide (lo ≤ x ∧ x ≤ hi)
  | _, _, _ => false
theorem j1 : isiG "int" .non = some false := by simp [isiG]
theorem j2 (c : Bool) : isiG "int" (.bl c) = some true := by simp [isiG]
theorem j3 (c : Bool) : isiG "bool" (.bl c) = some true := by simp [isiG]
theorem j4 (x : Str) : isiG "int" (.str x) = some false := by simp [isiG]
theorem j5 (ds : List D) : isiG "int" (.tup ds) = some false := by simp [isiG]
theorem j6 (ds : List D) : isiG "int" (.lst ds) = some false := by simp [isiG]
theorem t1 : isiG "tuple" .non = some false := by simp [isiG]
theorem t2 (c : Bool) : isiG "tuple" (.bl c) = some false := by simp [isiG]
theorem t3 (i : Int) : isiG "tuple" (.int i) = some false := by simp [isiG]
theorem t4 (x : Str) : isiG "tuple" (.str x) = some false := by simp [isiG]
theorem t6 (ds : List D) : isiG "tuple" (.lst ds) = some false := by simp [isiG]
theorem whole1 {k : Nat} {d : D} (h : od k d = true) (lo hi : Int) : F_is_whole [d, .int lo, .int hi] = .ok (.bl (wh d lo hi)) := by
  cases k with
  | zero => simp [od] at h
  | succ k =>
    cases d with
    | int x => exact F_is_whole_eq x lo hi
    | non => exact fnD_of (Rt.ret (by simp only [ev_C, ev_Var, ev_Bor, ev_Nl, ev_Bin, ev_Tup, ev_L, ev_Fn, ev_Call, ev_nil, ev_cons, ev_If, ev_And, ev_Or, ev_Not, ev_cAnd, ev_cOr, ev_cNot, ev_cB, ev_cTr, ev_toB, ev_IsN, ev_NotN, ev_isN_non, ev_isN_int, ev_isN_str, ev_isN_tup, ev_isN_bl, ev_MulL, ev_MulR, ev_DivC, ev_ModC, ev_Neg, ev_addI, ev_subI, ev_ltI, ev_leI, ev_gtI, ev_geI, ev_eqI, ev_neI, ev_eqS, ev_neS, ev_eqN, ev_neN, ev_eqNI, ev_neNI, ev_eqIN, ev_neIN, ev_eqB, ev_neB, ev_isB, ev_notB, ev_absI, ev_min2, ev_max2, ev_lenT, ev_lenL, ev_lenS, ev_tupL, ev_tupT, ev_intI, ev_intB, ev_ixT, ev_ixL, ev_ixS, at0, at1, at2, at3, atM1, ev_seq, ev_set, ev_own, ev_ret, ev_drop, ev_sIf, ev_for, ev_frz, ev_asg, ev_par2, ev_par3, ev_mVal, ev_mOwn, ev_app, ev_setv, ev_sets0, ev_sets1, ev_stv, ev_bnm, ev_btp, ev_bl0, ev_bl1, ev_R1, ev_R2, ev_iL, ev_iT, ev_itL, ev_itT, ev_forNil, ev_nolI, ev_nolN, ev_nolS, ev_nolB, ev_nolT, ev_nolL0, ev_nolL1, ev_cTrue, ev_wipe, Rz.bind_ok, Rz.bind_exc, Rz.bind_bad, Rz.ofO_some, Rz.ofO_none, onR_ok, onR_exc, onR_bad, onO_some, onO_none, List.getElem?_cons_zero, List.getElem?_cons_succ, ite_true, ite_false, if_true, if_false, reduceIte, Nat.reduceEqDiff, reduceCtorEq, Option.map_some, Option.bind_some, List.cons_append, List.nil_append, Option.map_none, Bool.false_eq_true, Bool.not_true, Bool.not_false, decide_true, decide_false, decide_eq_true_eq, beq_self_eq_true, ev_iSq, ev_itS1, ev_itS2, ev_itS3, ev_itS4, ev_iEn, ev_enS1, ev_enS2, ev_iZp, ev_zpS1, ev_zpS2, ev_Ch, ev_Sl, ev_O0, ev_O1, ev_iO, ev_slT, ev_slL, ev_Rg, ev_Rg3, ev_Ls, ev_lsT, ev_lsL, ev_Isi, ev_Isi2, ev_Rev, ev_revT, ev_Wk, ev_wkN, ev_wkT, ev_tupN, ev_CntT, ev_ctT, ev_IxT, ev_ixT', ev_IxL, ev_ixL', ev_Cnt, ev_ctL, ev_Dic, ev_dg, ev_Sub, ev_Ext, ev_trI, ev_trT, ev_trL, ev_MmD, eq_self, ev_IsE, ev_CallH, ev_unN, ev_unR, ev_TryA, ev_Try, ev_exN, ev_exR, ev_exE, ev_tyN, ev_tyR, ev_tyE, ev_Raise, ev_noxN, ev_noxR, ev_Trg, ev_Cat, j1]; rfl))
    | bl c => exact fnD_of (Rt.ret (by simp only [ev_C, ev_Var, ev_Bor, ev_Nl, ev_Bin, ev_Tup, ev_L, ev_Fn, ev_Call, ev_nil, ev_cons, ev_If, ev_And, ev_Or, ev_Not, ev_cAnd, ev_cOr, ev_cNot, ev_cB, ev_cTr, ev_toB, ev_IsN, ev_NotN, ev_isN_non, ev_isN_int, ev_isN_str, ev_isN_tup, ev_isN_bl, ev_MulL, ev_MulR, ev_DivC, ev_ModC, ev_Neg, ev_addI, ev_subI, ev_ltI, ev_leI, ev_gtI, ev_geI, ev_eqI, ev_neI, ev_eqS, ev_neS, ev_eqN, ev_neN, ev_eqNI, ev_neNI, ev_eqIN, ev_neIN, ev_eqB, ev_neB, ev_isB, ev_notB, ev_absI, ev_min2, ev_max2, ev_lenT, ev_lenL, ev_lenS, ev_tupL, ev_tupT, ev_intI, ev_intB, ev_ixT, ev_ixL, ev_ixS, at0, at1, at2, at3, atM1, ev_seq, ev_set, ev_own, ev_ret, ev_drop, ev_sIf, ev_for, ev_frz, ev_asg, ev_par2, ev_par3, ev_mVal, ev_mOwn, ev_app, ev_setv, ev_sets0, ev_sets1, ev_stv, ev_bnm, ev_btp, ev_bl0, ev_bl1, ev_R1, ev_R2, ev_iL, ev_iT, ev_itL, ev_itT, ev_forNil, ev_nolI, ev_nolN, ev_nolS, ev_nolB, ev_nolT, ev_nolL0, ev_nolL1, ev_cTrue, ev_wipe, Rz.bind_ok, Rz.bind_exc, Rz.bind_bad, Rz.ofO_some, Rz.ofO_none, onR_ok, onR_exc, onR_bad, onO_some, onO_none, List.getElem?_cons_zero, List.getElem?_cons_succ, ite_true, ite_false, if_true, if_false, reduceIte, Nat.reduceEqDiff, reduceCtorEq, Option.map_some, Option.bind_some, List.cons_append, List.nil_append, Option.map_none, Bool.false_eq_true, Bool.not_true, Bool.not_false, decide_true, decide_false, decide_eq_true_eq, beq_self_eq_true, ev_iSq, ev_itS1, ev_itS2, ev_itS3, ev_itS4, ev_iEn, ev_enS1, ev_enS2, ev_iZp, ev_zpS1, ev_zpS2, ev_Ch, ev_Sl, ev_O0, ev_O1, ev_iO, ev_slT, ev_slL, ev_Rg, ev_Rg3, ev_Ls, ev_lsT, ev_lsL, ev_Isi, ev_Isi2, ev_Rev, ev_revT, ev_Wk, ev_wkN, ev_wkT, ev_tupN, ev_CntT, ev_ctT, ev_IxT, ev_ixT', ev_IxL, ev_ixL', ev_Cnt, ev_ctL, ev_Dic, ev_dg, ev_Sub, ev_Ext, ev_trI, ev_trT, ev_trL, ev_MmD, eq_self, ev_IsE, ev_CallH, ev_unN, ev_unR, ev_TryA, ev_Try, ev_exN, ev_exR, ev_exE, ev_tyN, ev_tyR, ev_tyE, ev_Raise, ev_noxN, ev_noxR, ev_Trg, ev_Cat, j2, j3]; rfl))
    | str x => exact fnD_of (Rt.ret (by simp only [ev_C, ev_Var, ev_Bor, ev_Nl, ev_Bin, ev_Tup, ev_L, ev_Fn, ev_Call, ev_nil, ev_cons, ev_If, ev_And, ev_Or, ev_Not, ev_cAnd, ev_cOr, ev_cNot, ev_cB, ev_cTr, ev_toB, ev_IsN, ev_NotN, ev_isN_non, ev_isN_int, ev_isN_str, ev_isN_tup, ev_isN_bl, ev_MulL, ev_MulR, ev_DivC, ev_ModC, ev_Neg, ev_addI, ev_subI, ev_ltI, ev_leI, ev_gtI, ev_geI, ev_eqI, ev_neI, ev_eqS, ev_neS, ev_eqN, ev_neN, ev_eqNI, ev_neNI, ev_eqIN, ev_neIN, ev_eqB, ev_neB, ev_isB, ev_notB, ev_absI, ev_min2, ev_max2, ev_lenT, ev_lenL, ev_lenS, ev_tupL, ev_tupT, ev_intI, ev_intB, ev_ixT, ev_ixL, ev_ixS, at0, at1, at2, at3, atM1, ev_seq, ev_set, ev_own, ev_ret, ev_drop, ev_sIf, ev_for, ev_frz, ev_asg, ev_par2, ev_par3, ev_mVal, ev_mOwn, ev_app, ev_setv, ev_sets0, ev_sets1, ev_stv, ev_bnm, ev_btp, ev_bl0, ev_bl1, ev_R1, ev_R2, ev_iL, ev_iT, ev_itL, ev_itT, ev_forNil, ev_nolI, ev_nolN, ev_nolS, ev_nolB, ev_nolT, ev_nolL0, ev_nolL1, ev_cTrue, ev_wipe, Rz.bind_ok, Rz.bind_exc, Rz.bind_bad, Rz.ofO_some, Rz.ofO_none, onR_ok, onR_exc, onR_bad, onO_some, onO_none, List.getElem?_cons_zero, List.getElem?_cons_succ, ite_true, ite_false, if_true, if_false, reduceIte, Nat.reduceEqDiff, reduceCtorEq, Option.map_some, Option.bind_some, List.cons_append, List.nil_append, Option.map_none, Bool.false_eq_true, Bool.not_true, Bool.not_false, decide_true, decide_false, decide_eq_true_eq, beq_self_eq_true, ev_iSq, ev_itS1, ev_itS2, ev_itS3, ev_itS4, ev_iEn, ev_enS1, ev_enS2, ev_iZp, ev_zpS1, ev_zpS2, ev_Ch, ev_Sl, ev_O0, ev_O1, ev_iO, ev_slT, ev_slL, ev_Rg, ev_Rg3, ev_Ls, ev_lsT, ev_lsL, ev_Isi, ev_Isi2, ev_Rev, ev_revT, ev_Wk, ev_wkN, ev_wkT, ev_tupN, ev_CntT, ev_ctT, ev_IxT, ev_ixT', ev_IxL, ev_ixL', ev_Cnt, ev_ctL, ev_Dic, ev_dg, ev_Sub, ev_Ext, ev_trI, ev_trT, ev_trL, ev_MmD, eq_self, ev_IsE, ev_CallH, ev_unN, ev_unR, ev_TryA, ev_Try, ev_exN, ev_exR, ev_exE, ev_tyN, ev_tyR, ev_tyE, ev_Raise, ev_noxN, ev_noxR, ev_Trg, ev_Cat, j4]; rfl))
    | tup ds => exact fnD_of (Rt.ret (by simp only [ev_C, ev_Var, ev_Bor, ev_Nl, ev_Bin, ev_Tup, ev_L, ev_Fn, ev_Call, ev_nil, ev_cons, ev_If, ev_And, ev_Or, ev_Not, ev_cAnd, ev_cOr, ev_cNot, ev_cB, ev_cTr, ev_toB, ev_IsN, ev_NotN, ev_isN_non, ev_isN_int, ev_isN_str, ev_isN_tup, ev_isN_bl, ev_MulL, ev_MulR, ev_DivC, ev_ModC, ev_Neg, ev_addI, ev_subI, ev_ltI, ev_leI, ev_gtI, ev_geI, ev_eqI, ev_neI, ev_eqS, ev_neS, ev_eqN, ev_neN, ev_eqNI, ev_neNI, ev_eqIN, ev_neIN, ev_eqB, ev_neB, ev_isB, ev_notB, ev_absI, ev_min2, ev_max2, ev_lenT, ev_lenL, ev_lenS, ev_tupL, ev_tupT, ev_intI, ev_intB, ev_ixT, ev_ixL, ev_ixS, at0, at1, at2, at3, atM1, ev_seq, ev_set, ev_own, ev_ret, ev_drop, ev_sIf, ev_for, ev_frz, ev_asg, ev_par2, ev_par3, ev_mVal, ev_mOwn, ev_app, ev_setv, ev_sets0, ev_sets1, ev_stv, ev_bnm, ev_btp, ev_bl0, ev_bl1, ev_R1, ev_R2, ev_iL, ev_iT, ev_itL, ev_itT, ev_forNil, ev_nolI, ev_nolN, ev_nolS, ev_nolB, ev_nolT, ev_nolL0, ev_nolL1, ev_cTrue, ev_wipe, Rz.bind_ok, Rz.bind_exc, Rz.bind_bad, Rz.ofO_some, Rz.ofO_none, onR_ok, onR_exc, onR_bad, onO_some, onO_none, List.getElem?_cons_zero, List.getElem?_cons_succ, ite_true, ite_false, if_true, if_false, reduceIte, Nat.reduceEqDiff, reduceCtorEq, Option.map_some, Option.bind_some, List.cons_append, List.nil_append, Option.map_none, Bool.false_eq_true, Bool.not_true, Bool.not_false, decide_true, decide_false, decide_eq_true_eq, beq_self_eq_true, ev_iSq, ev_itS1, ev_itS2, ev_itS3, ev_itS4, ev_iEn, ev_enS1, ev_enS2, ev_iZp, ev_zpS1, ev_zpS2, ev_Ch, ev_Sl, ev_O0, ev_O1, ev_iO, ev_slT, ev_slL, ev_Rg, ev_Rg3, ev_Ls, ev_lsT, ev_lsL, ev_Isi, ev_Isi2, ev_Rev, ev_revT, ev_Wk, ev_wkN, ev_wkT, ev_tupN, ev_CntT, ev_ctT, ev_IxT, ev_ixT', ev_IxL, ev_ixL', ev_Cnt, ev_ctL, ev_Dic, ev_dg, ev_Sub, ev_Ext, ev_trI, ev_trT, ev_trL, ev_MmD, eq_self, ev_IsE, ev_CallH, ev_unN, ev_unR, ev_TryA, ev_Try, ev_exN, ev_exR, ev_exE, ev_tyN, ev_tyR, ev_tyE, ev_Raise, ev_noxN, ev_noxR, ev_Trg, ev_Cat, j5]; rfl))
    | lst ds => exact fnD_of (Rt.ret (by simp only [ev_C, ev_Var, ev_Bor, ev_Nl, ev_Bin, ev_Tup, ev_L, ev_Fn, ev_Call, ev_nil, ev_cons, ev_If, ev_And, ev_Or, ev_Not, ev_cAnd, ev_cOr, ev_cNot, ev_cB, ev_cTr, ev_toB, ev_IsN, ev_NotN, ev_isN_non, ev_isN_int, ev_isN_str, ev_isN_tup, ev_isN_bl, ev_MulL, ev_MulR, ev_DivC, ev_ModC, ev_Neg, ev_addI, ev_subI, ev_ltI, ev_leI, ev_gtI, ev_geI, ev_eqI, ev_neI, ev_eqS, ev_neS, ev_eqN, ev_neN, ev_eqNI, ev_neNI, ev_eqIN, ev_neIN, ev_eqB, ev_neB, ev_isB, ev_notB, ev_absI, ev_min2, ev_max2, ev_lenT, ev_lenL, ev_lenS, ev_tupL, ev_tupT, ev_intI, ev_intB, ev_ixT, ev_ixL, ev_ixS, at0, at1, at2, at3, atM1, ev_seq, ev_set, ev_own, ev_ret, ev_drop, ev_sIf, ev_for, ev_frz, ev_asg, ev_par2, ev_par3, ev_mVal, ev_mOwn, ev_app, ev_setv, ev_sets0, ev_sets1, ev_stv, ev_bnm, ev_btp, ev_bl0, ev_bl1, ev_R1, ev_R2, ev_iL, ev_iT, ev_itL, ev_itT, ev_forNil, ev_nolI, ev_nolN, ev_nolS, ev_nolB, ev_nolT, ev_nolL0, ev_nolL1, ev_cTrue, ev_wipe, Rz.bind_ok, Rz.bind_exc, Rz.bind_bad, Rz.ofO_some, Rz.ofO_none, onR_ok, onR_exc, onR_bad, onO_some, onO_none, List.getElem?_cons_zero, List.getElem?_cons_succ, ite_true, ite_false, if_true, if_false, reduceIte, Nat.reduceEqDiff, reduceCtorEq, Option.map_some, Option.bind_some, List.cons_append, List.nil_append, Option.map_none, Bool.false_eq_true, Bool.not_true, Bool.not_false, decide_true, decide_false, decide_eq_true_eq, beq_self_eq_true, ev_iSq, ev_itS1, ev_itS2, ev_itS3, ev_itS4, ev_iEn, ev_enS1, ev_enS2, ev_iZp, ev_zpS1, ev_zpS2, ev_Ch, ev_Sl, ev_O0, ev_O1, ev_iO, ev_slT, ev_slL, ev_Rg, ev_Rg3, ev_Ls, ev_lsT, ev_lsL, ev_Isi, ev_Isi2, ev_Rev, ev_revT, ev_Wk, ev_wkN, ev_wkT, ev_tupN, ev_CntT, ev_ctT, ev_IxT, ev_ixT', ev_IxL, ev_ixL', ev_Cnt, ev_ctL, ev_Dic, ev_dg, ev_Sub, ev_Ext, ev_trI, ev_trT, ev_trL, ev_MmD, eq_self, ev_IsE, ev_CallH, ev_unN, ev_unR, ev_TryA, ev_Try, ev_exN, ev_exR, ev_exE, ev_tyN, ev_tyR, ev_tyE, ev_Raise, ev_noxN, ev_noxR, ev_Trg, ev_Cat, j6]; rfl))
    | _ => simp [od] at h
theorem whole2 (l : List D) : F_law_whole l = F_is_whole l := rfl
theorem not_tup {k : Nat} {d : D} (h : od k d = true) : (∃ ds, d = .tup ds ∧ (∀ x ∈ ds, od (k - 1) x = true) ∧ ds.length ≤ 1000) ∨ isiG "tuple" d = some false := by
  cases k with
  | zero => simp [od] at h
  | succ k =>
    cases d with
    | int x => exact .inr (t3 x)
    | non => exact .inr t1
    | bl c => exact .inr (t2 c)
    | str x => exact .inr (t4 x)
    | tup ds =>
      simp only [od, Bool.and_eq_true, List.all_eq_true, decide_eq_true_eq] at h
      exact .inl ⟨ds, rfl, h.1, h.2⟩
    | lst ds => exact .inr (t6 ds)
    | _ => simp [od] at h
theorem wh_int {d : D} {lo hi : Int} (h : wh d lo hi = true) : ∃ x, d = .int x ∧ lo ≤ x ∧ x ≤ hi := by
  cases d with
  | int x => exact ⟨x, rfl, by simpa [wh] using h⟩
  | _ => simp [wh] at h
/-! ### the law's is_book -/
theorem st_gap {b : Book} (h : b.Pre) {i : Nat} (hi : i + 1 < b.pw.length) (hr : b.p i < b.p (i + 1)) : F_law_ten [.int (gI b.pw (i + 1) - gI b.pw i)] = .ok (.int (10 ^ (b.p (i + 1) - b.p i).toNat)) ∧ b.st (i + 1) = b.st i * 10 ^ (b.p (i + 1) - b.p i).toNat ∧ (10 : Int) ^ (b.p (i + 1) - b.p i).toNat ≤ 100000000000000 := by
  have p1 := h.pr _ (getD_mem (show i < b.pw.length by omega))
  have p2 := h.pr _ (getD_mem hi)
  have e1 : b.p i = gI b.pw i := rfl
  have e2 : b.p (i + 1) = gI b.pw (i + 1) := rfl
  refine ⟨F_law_ten_eq (by omega) (by omega), ?_, Int.le_trans (pow_mono (show (b.p (i + 1) - b.p i).toNat ≤ 14 by omega)) (by decide)⟩
  unfold Book.st
  rw [← Int.pow_add]
  congr 1
  omega
theorem lib_loop {b : Book} (h : b.Pre) : ∀ (n k : Nat) (e : En), k + n + 1 = b.pw.length → e.v 0 = .val b.d → e.v 1 = .val (.tup (b.pw.map D.int)) → (∃ e', forGo (.nm 2) g_law_is_book_b0 (rngD k n) e = .next e' ∧ ∀ i, k ≤ i → i + 1 < b.pw.length → b.gd i) ∨ (∃ e', forGo (.nm 2) g_law_is_book_b0 (rngD k n) e = .ret (.bl false) e' ∧ ∃ i, i + 1 < b.pw.length ∧ ¬ b.gd i)
  | 0, k, e, hk, _, _ => .inl ⟨e, rfl, fun i h1 h2 => by omega⟩
  | n + 1, j, e, hk, h0, h1 => by
    have i1 : atI (b.pw.map D.int) ((j : Nat) : Int) = some (.int (gI b.pw j)) := by
      rw [at_map_int (by omega) (by omega)]; congr 3
    have i2 : atI (b.pw.map D.int) ((j : Nat) + 1 : Int) = some (.int (gI b.pw (j + 1))) := by
      rw [at_map_int (by omega) (by omega)]; congr 3
    rw [rngD]
    by_cases hr : b.p j < b.p (j + 1)
    · obtain ⟨t1, t2, t3⟩ := st_gap h (i := j) (by omega) hr
      have q1 : ¬ gI b.pw (j + 1) ≤ gI b.pw j := by unfold Book.p at hr; omega
      have m2 := mul_ok (i := b.low) (j := 10 ^ (b.p (j + 1) - b.p j).toNat) (.inl ⟨by have := h.l1; omega, by have := h.l2; have := h.f2; omega⟩)
      have gg : b.gd j ↔ b.low * 10 ^ (b.p (j + 1) - b.p j).toNat ≤ b.full := by
        unfold Book.gd
        rw [t2, Int.mul_comm (b.st j), ← Int.mul_assoc]
        have sp := b.st_pos j
        constructor
        · intro z
          exact Int.le_of_mul_le_mul_right z.2 sp
        · intro z
          exact ⟨hr, Int.mul_le_mul_of_nonneg_right z (by omega)⟩
      by_cases g : b.gd j
      · have q2 : ¬ b.full < b.low * 10 ^ (b.p (j + 1) - b.p j).toNat := by have := gg.mp g; omega
        have key : g_law_is_book_b0 (e.set 2 (.val (.int ((j : Nat) : Int)))) = .next (e.set 2 (.val (.int ((j : Nat) : Int)))) := by
          unfold g_law_is_book_b0
          simp only [ev_C, ev_Var, ev_Bor, ev_Nl, ev_Bin, ev_Tup, ev_L, ev_Fn, ev_Call, ev_nil, ev_cons, ev_If, ev_And, ev_Or, ev_Not, ev_cAnd, ev_cOr, ev_cNot, ev_cB, ev_cTr, ev_toB, ev_IsN, ev_NotN, ev_isN_non, ev_isN_int, ev_isN_str, ev_isN_tup, ev_isN_bl, ev_MulL, ev_MulR, ev_DivC, ev_ModC, ev_Neg, ev_addI, ev_subI, ev_ltI, ev_leI, ev_gtI, ev_geI, ev_eqI, ev_neI, ev_eqS, ev_neS, ev_eqN, ev_neN, ev_eqNI, ev_neNI, ev_eqIN, ev_neIN, ev_eqB, ev_neB, ev_isB, ev_notB, ev_absI, ev_min2, ev_max2, ev_lenT, ev_lenL, ev_lenS, ev_tupL, ev_tupT, ev_intI, ev_intB, ev_ixT, ev_ixL, ev_ixS, at0, at1, at2, at3, atM1, ev_seq, ev_set, ev_own, ev_ret, ev_drop, ev_sIf, ev_for, ev_frz, ev_asg, ev_par2, ev_par3, ev_mVal, ev_mOwn, ev_app, ev_setv, ev_sets0, ev_sets1, ev_stv, ev_bnm, ev_btp, ev_bl0, ev_bl1, ev_R1, ev_R2, ev_iL, ev_iT, ev_itL, ev_itT, ev_forNil, ev_nolI, ev_nolN, ev_nolS, ev_nolB, ev_nolT, ev_nolL0, ev_nolL1, ev_cTrue, ev_wipe, Rz.bind_ok, Rz.bind_exc, Rz.bind_bad, Rz.ofO_some, Rz.ofO_none, onR_ok, onR_exc, onR_bad, onO_some, onO_none, List.getElem?_cons_zero, List.getElem?_cons_succ, ite_true, ite_false, if_true, if_false, reduceIte, Nat.reduceEqDiff, reduceCtorEq, Option.map_some, Option.bind_some, List.cons_append, List.nil_append, Option.map_none, Bool.false_eq_true, Bool.not_true, Bool.not_false, decide_true, decide_false, decide_eq_true_eq, beq_self_eq_true, ev_iSq, ev_itS1, ev_itS2, ev_itS3, ev_itS4, ev_iEn, ev_enS1, ev_enS2, ev_iZp, ev_zpS1, ev_zpS2, ev_Ch, ev_Sl, ev_O0, ev_O1, ev_iO, ev_slT, ev_slL, ev_Rg, ev_Rg3, ev_Ls, ev_lsT, ev_lsL, ev_Isi, ev_Isi2, ev_Rev, ev_revT, ev_Wk, ev_wkN, ev_wkT, ev_tupN, ev_CntT, ev_ctT, ev_IxT, ev_ixT', ev_IxL, ev_ixL', ev_Cnt, ev_ctL, ev_Dic, ev_dg, ev_Sub, ev_Ext, ev_trI, ev_trT, ev_trL, ev_MmD, eq_self, ev_IsE, ev_CallH, ev_unN, ev_unR, ev_TryA, ev_Try, ev_exN, ev_exR, ev_exE, ev_tyN, ev_tyR, ev_tyE, ev_Raise, ev_noxN, ev_noxR, ev_Trg, ev_Cat, h0, h1, i1, i2, bd0, bd1, t1, m2, q1, q2, SR.next]
        rw [forNm_step key]
        have := lib_loop h n (j + 1) (e.set 2 (.val (.int ((j : Nat) : Int)))) (by omega) (by simp only [ev_C, ev_Var, ev_Bor, ev_Nl, ev_Bin, ev_Tup, ev_L, ev_Fn, ev_Call, ev_nil, ev_cons, ev_If, ev_And, ev_Or, ev_Not, ev_cAnd, ev_cOr, ev_cNot, ev_cB, ev_cTr, ev_toB, ev_IsN, ev_NotN, ev_isN_non, ev_isN_int, ev_isN_str, ev_isN_tup, ev_isN_bl, ev_MulL, ev_MulR, ev_DivC, ev_ModC, ev_Neg, ev_addI, ev_subI, ev_ltI, ev_leI, ev_gtI, ev_geI, ev_eqI, ev_neI, ev_eqS, ev_neS, ev_eqN, ev_neN, ev_eqNI, ev_neNI, ev_eqIN, ev_neIN, ev_eqB, ev_neB, ev_isB, ev_notB, ev_absI, ev_min2, ev_max2, ev_lenT, ev_lenL, ev_lenS, ev_tupL, ev_tupT, ev_intI, ev_intB, ev_ixT, ev_ixL, ev_ixS, at0, at1, at2, at3, atM1, ev_seq, ev_set, ev_own, ev_ret, ev_drop, ev_sIf, ev_for, ev_frz, ev_asg, ev_par2, ev_par3, ev_mVal, ev_mOwn, ev_app, ev_setv, ev_sets0, ev_sets1, ev_stv, ev_bnm, ev_btp, ev_bl0, ev_bl1, ev_R1, ev_R2, ev_iL, ev_iT, ev_itL, ev_itT, ev_forNil, ev_nolI, ev_nolN, ev_nolS, ev_nolB, ev_nolT, ev_nolL0, ev_nolL1, ev_cTrue, ev_wipe, Rz.bind_ok, Rz.bind_exc, Rz.bind_bad, Rz.ofO_some, Rz.ofO_none, onR_ok, onR_exc, onR_bad, onO_some, onO_none, List.getElem?_cons_zero, List.getElem?_cons_succ, ite_true, ite_false, if_true, if_false, reduceIte, Nat.reduceEqDiff, reduceCtorEq, Option.map_some, Option.bind_some, List.cons_append, List.nil_append, Option.map_none, Bool.false_eq_true, Bool.not_true, Bool.not_false, decide_true, decide_false, decide_eq_true_eq, beq_self_eq_true, ev_iSq, ev_itS1, ev_itS2, ev_itS3, ev_itS4, ev_iEn, ev_enS1, ev_enS2, ev_iZp, ev_zpS1, ev_zpS2, ev_Ch, ev_Sl, ev_O0, ev_O1, ev_iO, ev_slT, ev_slL, ev_Rg, ev_Rg3, ev_Ls, ev_lsT, ev_lsL, ev_Isi, ev_Isi2, ev_Rev, ev_revT, ev_Wk, ev_wkN, ev_wkT, ev_tupN, ev_CntT, ev_ctT, ev_IxT, ev_ixT', ev_IxL, ev_ixL', ev_Cnt, ev_ctL, ev_Dic, ev_dg, ev_Sub, ev_Ext, ev_trI, ev_trT, ev_trL, ev_MmD, eq_self, ev_IsE, ev_CallH, ev_unN, ev_unR, ev_TryA, ev_Try, ev_exN, ev_exR, ev_exE, ev_tyN, ev_tyR, ev_tyE, ev_Raise, ev_noxN, ev_noxR, ev_Trg, ev_Cat, h0]) (by simp only [ev_C, ev_Var, ev_Bor, ev_Nl, ev_Bin, ev_Tup, ev_L, ev_Fn, ev_Call, ev_nil, ev_cons, ev_If, ev_And, ev_Or, ev_Not, ev_cAnd, ev_cOr, ev_cNot, ev_cB, ev_cTr, ev_toB, ev_IsN, ev_NotN, ev_isN_non, ev_isN_int, ev_isN_str, ev_isN_tup, ev_isN_bl, ev_MulL, ev_MulR, ev_DivC, ev_ModC, ev_Neg, ev_addI, ev_subI, ev_ltI, ev_leI, ev_gtI, ev_geI, ev_eqI, ev_neI, ev_eqS, ev_neS, ev_eqN, ev_neN, ev_eqNI, ev_neNI, ev_eqIN, ev_neIN, ev_eqB, ev_neB, ev_isB, ev_notB, ev_absI, ev_min2, ev_max2, ev_lenT, ev_lenL, ev_lenS, ev_tupL, ev_tupT, ev_intI, ev_intB, ev_ixT, ev_ixL, ev_ixS, at0, at1, at2, at3, atM1, ev_seq, ev_set, ev_own, ev_ret, ev_drop, ev_sIf, ev_for, ev_frz, ev_asg, ev_par2, ev_par3, ev_mVal, ev_mOwn, ev_app, ev_setv, ev_sets0, ev_sets1, ev_stv, ev_bnm, ev_btp, ev_bl0, ev_bl1, ev_R1, ev_R2, ev_iL, ev_iT, ev_itL, ev_itT, ev_forNil, ev_nolI, ev_nolN, ev_nolS, ev_nolB, ev_nolT, ev_nolL0, ev_nolL1, ev_cTrue, ev_wipe, Rz.bind_ok, Rz.bind_exc, Rz.bind_bad, Rz.ofO_some, Rz.ofO_none, onR_ok, onR_exc, onR_bad, onO_some, onO_none, List.getElem?_cons_zero, List.getElem?_cons_succ, ite_true, ite_false, if_true, if_false, reduceIte, Nat.reduceEqDiff, reduceCtorEq, Option.map_some, Option.bind_some, List.cons_append, List.nil_append, Option.map_none, Bool.false_eq_true, Bool.not_true, Bool.not_false, decide_true, decide_false, decide_eq_true_eq, beq_self_eq_true, ev_iSq, ev_itS1, ev_itS2, ev_itS3, ev_itS4, ev_iEn, ev_enS1, ev_enS2, ev_iZp, ev_zpS1, ev_zpS2, ev_Ch, ev_Sl, ev_O0, ev_O1, ev_iO, ev_slT, ev_slL, ev_Rg, ev_Rg3, ev_Ls, ev_lsT, ev_lsL, ev_Isi, ev_Isi2, ev_Rev, ev_revT, ev_Wk, ev_wkN, ev_wkT, ev_tupN, ev_CntT, ev_ctT, ev_IxT, ev_ixT', ev_IxL, ev_ixL', ev_Cnt, ev_ctL, ev_Dic, ev_dg, ev_Sub, ev_Ext, ev_trI, ev_trT, ev_trL, ev_MmD, eq_self, ev_IsE, ev_CallH, ev_unN, ev_unR, ev_TryA, ev_Try, ev_exN, ev_exR, ev_exE, ev_tyN, ev_tyR, ev_tyE, ev_Raise, ev_noxN, ev_noxR, ev_Trg, ev_Cat, h1])
        rw [show ((j + 1 : Nat) : Int) = ((j : Nat) : Int) + 1 by push_cast; rfl] at this
        rcases this with ⟨e', a1, a2⟩ | h4
        · refine .inl ⟨e', a1, fun i hi1 hi2 => ?_⟩
          by_cases q : i = j
          · subst q; exact g
          · exact a2 i (by omega) hi2
        · exact .inr h4
      · have q2 : b.full < b.low * 10 ^ (b.p (j + 1) - b.p j).toNat := by
          by_cases z : b.full < b.low * 10 ^ (b.p (j + 1) - b.p j).toNat
          · exact z
          · exact absurd (gg.mpr (by omega)) g
        have key : ∃ e', g_law_is_book_b0 (e.set 2 (.val (.int ((j : Nat) : Int)))) = .ret (.bl false) e' := by
          unfold g_law_is_book_b0
          exact ⟨_, by simp only [ev_C, ev_Var, ev_Bor, ev_Nl, ev_Bin, ev_Tup, ev_L, ev_Fn, ev_Call, ev_nil, ev_cons, ev_If, ev_And, ev_Or, ev_Not, ev_cAnd, ev_cOr, ev_cNot, ev_cB, ev_cTr, ev_toB, ev_IsN, ev_NotN, ev_isN_non, ev_isN_int, ev_isN_str, ev_isN_tup, ev_isN_bl, ev_MulL, ev_MulR, ev_DivC, ev_ModC, ev_Neg, ev_addI, ev_subI, ev_ltI, ev_leI, ev_gtI, ev_geI, ev_eqI, ev_neI, ev_eqS, ev_neS, ev_eqN, ev_neN, ev_eqNI, ev_neNI, ev_eqIN, ev_neIN, ev_eqB, ev_neB, ev_isB, ev_notB, ev_absI, ev_min2, ev_max2, ev_lenT, ev_lenL, ev_lenS, ev_tupL, ev_tupT, ev_intI, ev_intB, ev_ixT, ev_ixL, ev_ixS, at0, at1, at2, at3, atM1, ev_seq, ev_set, ev_own, ev_ret, ev_drop, ev_sIf, ev_for, ev_frz, ev_asg, ev_par2, ev_par3, ev_mVal, ev_mOwn, ev_app, ev_setv, ev_sets0, ev_sets1, ev_stv, ev_bnm, ev_btp, ev_bl0, ev_bl1, ev_R1, ev_R2, ev_iL, ev_iT, ev_itL, ev_itT, ev_forNil, ev_nolI, ev_nolN, ev_nolS, ev_nolB, ev_nolT, ev_nolL0, ev_nolL1, ev_cTrue, ev_wipe, Rz.bind_ok, Rz.bind_exc, Rz.bind_bad, Rz.ofO_some, Rz.ofO_none, onR_ok, onR_exc, onR_bad, onO_some, onO_none, List.getElem?_cons_zero, List.getElem?_cons_succ, ite_true, ite_false, if_true, if_false, reduceIte, Nat.reduceEqDiff, reduceCtorEq, Option.map_some, Option.bind_some, List.cons_append, List.nil_append, Option.map_none, Bool.false_eq_true, Bool.not_true, Bool.not_false, decide_true, decide_false, decide_eq_true_eq, beq_self_eq_true, ev_iSq, ev_itS1, ev_itS2, ev_itS3, ev_itS4, ev_iEn, ev_enS1, ev_enS2, ev_iZp, ev_zpS1, ev_zpS2, ev_Ch, ev_Sl, ev_O0, ev_O1, ev_iO, ev_slT, ev_slL, ev_Rg, ev_Rg3, ev_Ls, ev_lsT, ev_lsL, ev_Isi, ev_Isi2, ev_Rev, ev_revT, ev_Wk, ev_wkN, ev_wkT, ev_tupN, ev_CntT, ev_ctT, ev_IxT, ev_ixT', ev_IxL, ev_ixL', ev_Cnt, ev_ctL, ev_Dic, ev_dg, ev_Sub, ev_Ext, ev_trI, ev_trT, ev_trL, ev_MmD, eq_self, ev_IsE, ev_CallH, ev_unN, ev_unR, ev_TryA, ev_Try, ev_exN, ev_exR, ev_exE, ev_tyN, ev_tyR, ev_tyE, ev_Raise, ev_noxN, ev_noxR, ev_Trg, ev_Cat, h0, h1, i1, i2, bd0, bd1, t1, m2, q1, q2]; rfl⟩
        obtain ⟨e', key⟩ := key
        refine .inr ⟨e', ?_, j, by omega, g⟩
        rw [forGo, ev_bnm]
        simp only [onO_some, ev_sets1, ev_sets0, key]
    · have q1 : gI b.pw (j + 1) ≤ gI b.pw j := by unfold Book.p at hr; omega
      have key : ∃ e', g_law_is_book_b0 (e.set 2 (.val (.int ((j : Nat) : Int)))) = .ret (.bl false) e' := by
        unfold g_law_is_book_b0
        exact ⟨_, by simp only [ev_C, ev_Var, ev_Bor, ev_Nl, ev_Bin, ev_Tup, ev_L, ev_Fn, ev_Call, ev_nil, ev_cons, ev_If, ev_And, ev_Or, ev_Not, ev_cAnd, ev_cOr, ev_cNot, ev_cB, ev_cTr, ev_toB, ev_IsN, ev_NotN, ev_isN_non, ev_isN_int, ev_isN_str, ev_isN_tup, ev_isN_bl, ev_MulL, ev_MulR, ev_DivC, ev_ModC, ev_Neg, ev_addI, ev_subI, ev_ltI, ev_leI, ev_gtI, ev_geI, ev_eqI, ev_neI, ev_eqS, ev_neS, ev_eqN, ev_neN, ev_eqNI, ev_neNI, ev_eqIN, ev_neIN, ev_eqB, ev_neB, ev_isB, ev_notB, ev_absI, ev_min2, ev_max2, ev_lenT, ev_lenL, ev_lenS, ev_tupL, ev_tupT, ev_intI, ev_intB, ev_ixT, ev_ixL, ev_ixS, at0, at1, at2, at3, atM1, ev_seq, ev_set, ev_own, ev_ret, ev_drop, ev_sIf, ev_for, ev_frz, ev_asg, ev_par2, ev_par3, ev_mVal, ev_mOwn, ev_app, ev_setv, ev_sets0, ev_sets1, ev_stv, ev_bnm, ev_btp, ev_bl0, ev_bl1, ev_R1, ev_R2, ev_iL, ev_iT, ev_itL, ev_itT, ev_forNil, ev_nolI, ev_nolN, ev_nolS, ev_nolB, ev_nolT, ev_nolL0, ev_nolL1, ev_cTrue, ev_wipe, Rz.bind_ok, Rz.bind_exc, Rz.bind_bad, Rz.ofO_some, Rz.ofO_none, onR_ok, onR_exc, onR_bad, onO_some, onO_none, List.getElem?_cons_zero, List.getElem?_cons_succ, ite_true, ite_false, if_true, if_false, reduceIte, Nat.reduceEqDiff, reduceCtorEq, Option.map_some, Option.bind_some, List.cons_append, List.nil_append, Option.map_none, Bool.false_eq_true, Bool.not_true, Bool.not_false, decide_true, decide_false, decide_eq_true_eq, beq_self_eq_true, ev_iSq, ev_itS1, ev_itS2, ev_itS3, ev_itS4, ev_iEn, ev_enS1, ev_enS2, ev_iZp, ev_zpS1, ev_zpS2, ev_Ch, ev_Sl, ev_O0, ev_O1, ev_iO, ev_slT, ev_slL, ev_Rg, ev_Rg3, ev_Ls, ev_lsT, ev_lsL, ev_Isi, ev_Isi2, ev_Rev, ev_revT, ev_Wk, ev_wkN, ev_wkT, ev_tupN, ev_CntT, ev_ctT, ev_IxT, ev_ixT', ev_IxL, ev_ixL', ev_Cnt, ev_ctL, ev_Dic, ev_dg, ev_Sub, ev_Ext, ev_trI, ev_trT, ev_trL, ev_MmD, eq_self, ev_IsE, ev_CallH, ev_unN, ev_unR, ev_TryA, ev_Try, ev_exN, ev_exR, ev_exE, ev_tyN, ev_tyR, ev_tyE, ev_Raise, ev_noxN, ev_noxR, ev_Trg, ev_Cat, h0, h1, i1, i2, q1]; rfl⟩
      obtain ⟨e', key⟩ := key
      refine .inr ⟨e', ?_, j, by omega, fun g => hr g.1⟩
      rw [forGo, ev_bnm]
      simp only [onO_some, ev_sets1, ev_sets0, key]
theorem od_ok : ∀ {k : Nat} {d : D}, od k d = true → okd k d = true
  | 0, _, h => by simp [od] at h
  | _ + 1, .non, _ => by simp [okd]
  | _ + 1, .bl _, _ => by simp [okd]
  | _ + 1, .int _, _ => by simp [okd]
  | _ + 1, .str x, h => by simpa [okd, od] using h
  | k + 1, .tup ds, h => by
    simp only [od, Bool.and_eq_true, List.all_eq_true, decide_eq_true_eq] at h
    simp only [okd]
    have : ∀ l : List D, (∀ x ∈ l, od k x = true) → okdL k l = true := fun l => by
      induction l with
      | nil => intro _; rfl
      | cons x l ih =>
        intro hl
        rw [okdL, od_ok (hl x List.mem_cons_self), ih fun y hy => hl y (List.mem_cons_of_mem _ hy)]
        rfl
    exact this ds h.1
  | k + 1, .lst ds, h => by
    simp only [od, Bool.and_eq_true, List.all_eq_true, decide_eq_true_eq] at h
    simp only [okd]
    have : ∀ l : List D, (∀ x ∈ l, od k x = true) → okdL k l = true := fun l => by
      induction l with
      | nil => intro _; rfl
      | cons x l ih =>
        intro hl
        rw [okdL, od_ok (hl x List.mem_cons_self), ih fun y hy => hl y (List.mem_cons_of_mem _ hy)]
        rfl
    exact this ds h.1
  | _ + 1, .scr _, h => by simp [od] at h
  | _ + 1, .obj _, h => by simp [od] at h
  | _ + 1, .ntup _, h => by simp [od] at h
  | _ + 1, .adr _, h => by simp [od] at h
  | _ + 1, .dic _ _, h => by simp [od] at h
theorem okd_le {k m : Nat} {d : D} (h : k ≤ m) (o : okd k d = true) : okd m d = true := by
  induction h with
  | refl => exact o
  | step _ ih => exact okd_up ih
theorem okdL_all {k : Nat} : ∀ {l : List D}, (∀ x ∈ l, okd k x = true) → okdL k l = true
  | [], _ => rfl
  | x :: l, h => by
    rw [okdL, h x List.mem_cons_self, okdL_all fun y hy => h y (List.mem_cons_of_mem _ hy)]
    rfl
theorem lc_fltD {P : D → Bool} {v : Nat} {c : En → Rz Bool} {f : En → Rz D} {e : En} : ∀ (l : List D), (∀ x ∈ l, c (e.set v (.val x)) = .ok (P x) ∧ f (e.set v (.val x)) = .ok x) → lcGo (.nm v) c f e l = .ok (l.filter P)
  | [], _ => rfl
  | x :: l, h => by
    have ih := lc_fltD (P := P) (c := c) (f := f) (e := e) l fun y hy => h y (List.mem_cons_of_mem _ hy)
    obtain ⟨h1, h2⟩ := h x List.mem_cons_self
    rw [lcGo, ev_bnm]
    simp only [ev_sets1, ev_sets0, h1, h2, ih]
    cases q : P x <;> simp [q]
theorem blL_map {α : Type} (g : α → Bool) : ∀ l : List α, blL (l.map fun a => D.bl (g a)) = some (l.map g)
  | [] => rfl
  | a :: l => by rw [List.map_cons, blL, blL_map g l]; rfl
theorem ints_of : ∀ {ps : List D}, (∀ p ∈ ps, wh p 0 14 = true) → ∃ pw : List Int, ps = pw.map D.int ∧ ∀ p ∈ pw, 0 ≤ p ∧ p ≤ 14
  | [], _ => ⟨[], rfl, fun p hp => by cases hp⟩
  | d :: ps, h => by
    obtain ⟨x, rfl, x1, x2⟩ := wh_int (h d List.mem_cons_self)
    obtain ⟨pw, rfl, hp⟩ := ints_of (ps := ps) fun p hp => h p (List.mem_cons_of_mem _ hp)
    refine ⟨x :: pw, rfl, fun p hm => ?_⟩
    rcases List.mem_cons.mp hm with rfl | hm
    · exact ⟨x1, x2⟩
    · exact hp p hm
theorem len4 (a b c w : D) : ((([a, b, c, w] : List D).length : Nat) : Int) = 4 := rfl
def BothF (d : D) (c : Bool) : Prop := F_is_book [d] = .ok (.bl c) ∧ F_law_is_book [d] = .ok (.bl c)
theorem bf_nt {d : D} (h : isiG "tuple" d = some false) : BothF d false :=
  ⟨fnD_of (Rt.ift (by simp only [ev_C, ev_Var, ev_Bor, ev_Nl, ev_Bin, ev_Tup, ev_L, ev_Fn, ev_Call, ev_nil, ev_cons, ev_If, ev_And, ev_Or, ev_Not, ev_cAnd, ev_cOr, ev_cNot, ev_cB, ev_cTr, ev_toB, ev_IsN, ev_NotN, ev_isN_non, ev_isN_int, ev_isN_str, ev_isN_tup, ev_isN_bl, ev_MulL, ev_MulR, ev_DivC, ev_ModC, ev_Neg, ev_addI, ev_subI, ev_ltI, ev_leI, ev_gtI, ev_geI, ev_eqI, ev_neI, ev_eqS, ev_neS, ev_eqN, ev_neN, ev_eqNI, ev_neNI, ev_eqIN, ev_neIN, ev_eqB, ev_neB, ev_isB, ev_notB, ev_absI, ev_min2, ev_max2, ev_lenT, ev_lenL, ev_lenS, ev_tupL, ev_tupT, ev_intI, ev_intB, ev_ixT, ev_ixL, ev_ixS, at0, at1, at2, at3, atM1, ev_seq, ev_set, ev_own, ev_ret, ev_drop, ev_sIf, ev_for, ev_frz, ev_asg, ev_par2, ev_par3, ev_mVal, ev_mOwn, ev_app, ev_setv, ev_sets0, ev_sets1, ev_stv, ev_bnm, ev_btp, ev_bl0, ev_bl1, ev_R1, ev_R2, ev_iL, ev_iT, ev_itL, ev_itT, ev_forNil, ev_nolI, ev_nolN, ev_nolS, ev_nolB, ev_nolT, ev_nolL0, ev_nolL1, ev_cTrue, ev_wipe, Rz.bind_ok, Rz.bind_exc, Rz.bind_bad, Rz.ofO_some, Rz.ofO_none, onR_ok, onR_exc, onR_bad, onO_some, onO_none, List.getElem?_cons_zero, List.getElem?_cons_succ, ite_true, ite_false, if_true, if_false, reduceIte, Nat.reduceEqDiff, reduceCtorEq, Option.map_some, Option.bind_some, List.cons_append, List.nil_append, Option.map_none, Bool.false_eq_true, Bool.not_true, Bool.not_false, decide_true, decide_false, decide_eq_true_eq, beq_self_eq_true, ev_iSq, ev_itS1, ev_itS2, ev_itS3, ev_itS4, ev_iEn, ev_enS1, ev_enS2, ev_iZp, ev_zpS1, ev_zpS2, ev_Ch, ev_Sl, ev_O0, ev_O1, ev_iO, ev_slT, ev_slL, ev_Rg, ev_Rg3, ev_Ls, ev_lsT, ev_lsL, ev_Isi, ev_Isi2, ev_Rev, ev_revT, ev_Wk, ev_wkN, ev_wkT, ev_tupN, ev_CntT, ev_ctT, ev_IxT, ev_ixT', ev_IxL, ev_ixL', ev_Cnt, ev_ctL, ev_Dic, ev_dg, ev_Sub, ev_Ext, ev_trI, ev_trT, ev_trL, ev_MmD, eq_self, ev_IsE, ev_CallH, ev_unN, ev_unR, ev_TryA, ev_Try, ev_exN, ev_exR, ev_exE, ev_tyN, ev_tyR, ev_tyE, ev_Raise, ev_noxN, ev_noxR, ev_Trg, ev_Cat, h]) (Rt.ret (by simp only [ev_C, ev_Var, ev_Bor, ev_Nl, ev_Bin, ev_Tup, ev_L, ev_Fn, ev_Call, ev_nil, ev_cons, ev_If, ev_And, ev_Or, ev_Not, ev_cAnd, ev_cOr, ev_cNot, ev_cB, ev_cTr, ev_toB, ev_IsN, ev_NotN, ev_isN_non, ev_isN_int, ev_isN_str, ev_isN_tup, ev_isN_bl, ev_MulL, ev_MulR, ev_DivC, ev_ModC, ev_Neg, ev_addI, ev_subI, ev_ltI, ev_leI, ev_gtI, ev_geI, ev_eqI, ev_neI, ev_eqS, ev_neS, ev_eqN, ev_neN, ev_eqNI, ev_neNI, ev_eqIN, ev_neIN, ev_eqB, ev_neB, ev_isB, ev_notB, ev_absI, ev_min2, ev_max2, ev_lenT, ev_lenL, ev_lenS, ev_tupL, ev_tupT, ev_intI, ev_intB, ev_ixT, ev_ixL, ev_ixS, at0, at1, at2, at3, atM1, ev_seq, ev_set, ev_own, ev_ret, ev_drop, ev_sIf, ev_for, ev_frz, ev_asg, ev_par2, ev_par3, ev_mVal, ev_mOwn, ev_app, ev_setv, ev_sets0, ev_sets1, ev_stv, ev_bnm, ev_btp, ev_bl0, ev_bl1, ev_R1, ev_R2, ev_iL, ev_iT, ev_itL, ev_itT, ev_forNil, ev_nolI, ev_nolN, ev_nolS, ev_nolB, ev_nolT, ev_nolL0, ev_nolL1, ev_cTrue, ev_wipe, Rz.bind_ok, Rz.bind_exc, Rz.bind_bad, Rz.ofO_some, Rz.ofO_none, onR_ok, onR_exc, onR_bad, onO_some, onO_none, List.getElem?_cons_zero, List.getElem?_cons_succ, ite_true, ite_false, if_true, if_false, reduceIte, Nat.reduceEqDiff, reduceCtorEq, Option.map_some, Option.bind_some, List.cons_append, List.nil_append, Option.map_none, Bool.false_eq_true, Bool.not_true, Bool.not_false, decide_true, decide_false, decide_eq_true_eq, beq_self_eq_true, ev_iSq, ev_itS1, ev_itS2, ev_itS3, ev_itS4, ev_iEn, ev_enS1, ev_enS2, ev_iZp, ev_zpS1, ev_zpS2, ev_Ch, ev_Sl, ev_O0, ev_O1, ev_iO, ev_slT, ev_slL, ev_Rg, ev_Rg3, ev_Ls, ev_lsT, ev_lsL, ev_Isi, ev_Isi2, ev_Rev, ev_revT, ev_Wk, ev_wkN, ev_wkT, ev_tupN, ev_CntT, ev_ctT, ev_IxT, ev_ixT', ev_IxL, ev_ixL', ev_Cnt, ev_ctL, ev_Dic, ev_dg, ev_Sub, ev_Ext, ev_trI, ev_trT, ev_trL, ev_MmD, eq_self, ev_IsE, ev_CallH, ev_unN, ev_unR, ev_TryA, ev_Try, ev_exN, ev_exR, ev_exE, ev_tyN, ev_tyR, ev_tyE, ev_Raise, ev_noxN, ev_noxR, ev_Trg, ev_Cat]))), fnD_of (Rt.ift (by simp only [ev_C, ev_Var, ev_Bor, ev_Nl, ev_Bin, ev_Tup, ev_L, ev_Fn, ev_Call, ev_nil, ev_cons, ev_If, ev_And, ev_Or, ev_Not, ev_cAnd, ev_cOr, ev_cNot, ev_cB, ev_cTr, ev_toB, ev_IsN, ev_NotN, ev_isN_non, ev_isN_int, ev_isN_str, ev_isN_tup, ev_isN_bl, ev_MulL, ev_MulR, ev_DivC, ev_ModC, ev_Neg, ev_addI, ev_subI, ev_ltI, ev_leI, ev_gtI, ev_geI, ev_eqI, ev_neI, ev_eqS, ev_neS, ev_eqN, ev_neN, ev_eqNI, ev_neNI, ev_eqIN, ev_neIN, ev_eqB, ev_neB, ev_isB, ev_notB, ev_absI, ev_min2, ev_max2, ev_lenT, ev_lenL, ev_lenS, ev_tupL, ev_tupT, ev_intI, ev_intB, ev_ixT, ev_ixL, ev_ixS, at0, at1, at2, at3, atM1, ev_seq, ev_set, ev_own, ev_ret, ev_drop, ev_sIf, ev_for, ev_frz, ev_asg, ev_par2, ev_par3, ev_mVal, ev_mOwn, ev_app, ev_setv, ev_sets0, ev_sets1, ev_stv, ev_bnm, ev_btp, ev_bl0, ev_bl1, ev_R1, ev_R2, ev_iL, ev_iT, ev_itL, ev_itT, ev_forNil, ev_nolI, ev_nolN, ev_nolS, ev_nolB, ev_nolT, ev_nolL0, ev_nolL1, ev_cTrue, ev_wipe, Rz.bind_ok, Rz.bind_exc, Rz.bind_bad, Rz.ofO_some, Rz.ofO_none, onR_ok, onR_exc, onR_bad, onO_some, onO_none, List.getElem?_cons_zero, List.getElem?_cons_succ, ite_true, ite_false, if_true, if_false, reduceIte, Nat.reduceEqDiff, reduceCtorEq, Option.map_some, Option.bind_some, List.cons_append, List.nil_append, Option.map_none, Bool.false_eq_true, Bool.not_true, Bool.not_false, decide_true, decide_false, decide_eq_true_eq, beq_self_eq_true, ev_iSq, ev_itS1, ev_itS2, ev_itS3, ev_itS4, ev_iEn, ev_enS1, ev_enS2, ev_iZp, ev_zpS1, ev_zpS2, ev_Ch, ev_Sl, ev_O0, ev_O1, ev_iO, ev_slT, ev_slL, ev_Rg, ev_Rg3, ev_Ls, ev_lsT, ev_lsL, ev_Isi, ev_Isi2, ev_Rev, ev_revT, ev_Wk, ev_wkN, ev_wkT, ev_tupN, ev_CntT, ev_ctT, ev_IxT, ev_ixT', ev_IxL, ev_ixL', ev_Cnt, ev_ctL, ev_Dic, ev_dg, ev_Sub, ev_Ext, ev_trI, ev_trT, ev_trL, ev_MmD, eq_self, ev_IsE, ev_CallH, ev_unN, ev_unR, ev_TryA, ev_Try, ev_exN, ev_exR, ev_exE, ev_tyN, ev_tyR, ev_tyE, ev_Raise, ev_noxN, ev_noxR, ev_Trg, ev_Cat, h]) (Rt.ret (by simp only [ev_C, ev_Var, ev_Bor, ev_Nl, ev_Bin, ev_Tup, ev_L, ev_Fn, ev_Call, ev_nil, ev_cons, ev_If, ev_And, ev_Or, ev_Not, ev_cAnd, ev_cOr, ev_cNot, ev_cB, ev_cTr, ev_toB, ev_IsN, ev_NotN, ev_isN_non, ev_isN_int, ev_isN_str, ev_isN_tup, ev_isN_bl, ev_MulL, ev_MulR, ev_DivC, ev_ModC, ev_Neg, ev_addI, ev_subI, ev_ltI, ev_leI, ev_gtI, ev_geI, ev_eqI, ev_neI, ev_eqS, ev_neS, ev_eqN, ev_neN, ev_eqNI, ev_neNI, ev_eqIN, ev_neIN, ev_eqB, ev_neB, ev_isB, ev_notB, ev_absI, ev_min2, ev_max2, ev_lenT, ev_lenL, ev_lenS, ev_tupL, ev_tupT, ev_intI, ev_intB, ev_ixT, ev_ixL, ev_ixS, at0, at1, at2, at3, atM1, ev_seq, ev_set, ev_own, ev_ret, ev_drop, ev_sIf, ev_for, ev_frz, ev_asg, ev_par2, ev_par3, ev_mVal, ev_mOwn, ev_app, ev_setv, ev_sets0, ev_sets1, ev_stv, ev_bnm, ev_btp, ev_bl0, ev_bl1, ev_R1, ev_R2, ev_iL, ev_iT, ev_itL, ev_itT, ev_forNil, ev_nolI, ev_nolN, ev_nolS, ev_nolB, ev_nolT, ev_nolL0, ev_nolL1, ev_cTrue, ev_wipe, Rz.bind_ok, Rz.bind_exc, Rz.bind_bad, Rz.ofO_some, Rz.ofO_none, onR_ok, onR_exc, onR_bad, onO_some, onO_none, List.getElem?_cons_zero, List.getElem?_cons_succ, ite_true, ite_false, if_true, if_false, reduceIte, Nat.reduceEqDiff, reduceCtorEq, Option.map_some, Option.bind_some, List.cons_append, List.nil_append, Option.map_none, Bool.false_eq_true, Bool.not_true, Bool.not_false, decide_true, decide_false, decide_eq_true_eq, beq_self_eq_true, ev_iSq, ev_itS1, ev_itS2, ev_itS3, ev_itS4, ev_iEn, ev_enS1, ev_enS2, ev_iZp, ev_zpS1, ev_zpS2, ev_Ch, ev_Sl, ev_O0, ev_O1, ev_iO, ev_slT, ev_slL, ev_Rg, ev_Rg3, ev_Ls, ev_lsT, ev_lsL, ev_Isi, ev_Isi2, ev_Rev, ev_revT, ev_Wk, ev_wkN, ev_wkT, ev_tupN, ev_CntT, ev_ctT, ev_IxT, ev_ixT', ev_IxL, ev_ixL', ev_Cnt, ev_ctL, ev_Dic, ev_dg, ev_Sub, ev_Ext, ev_trI, ev_trT, ev_trL, ev_MmD, eq_self, ev_IsE, ev_CallH, ev_unN, ev_unR, ev_TryA, ev_Try, ev_exN, ev_exR, ev_exE, ev_tyN, ev_tyR, ev_tyE, ev_Raise, ev_noxN, ev_noxR, ev_Trg, ev_Cat])))⟩
theorem bf_len {ds : List D} (h : ds.length ≠ 4) : BothF (.tup ds) false := by
  have q : ((ds.length : Int) == 4) = false := beq_false_of_ne (by omega)
  exact ⟨fnD_of (Rt.ift (by simp only [ev_C, ev_Var, ev_Bor, ev_Nl, ev_Bin, ev_Tup, ev_L, ev_Fn, ev_Call, ev_nil, ev_cons, ev_If, ev_And, ev_Or, ev_Not, ev_cAnd, ev_cOr, ev_cNot, ev_cB, ev_cTr, ev_toB, ev_IsN, ev_NotN, ev_isN_non, ev_isN_int, ev_isN_str, ev_isN_tup, ev_isN_bl, ev_MulL, ev_MulR, ev_DivC, ev_ModC, ev_Neg, ev_addI, ev_subI, ev_ltI, ev_leI, ev_gtI, ev_geI, ev_eqI, ev_neI, ev_eqS, ev_neS, ev_eqN, ev_neN, ev_eqNI, ev_neNI, ev_eqIN, ev_neIN, ev_eqB, ev_neB, ev_isB, ev_notB, ev_absI, ev_min2, ev_max2, ev_lenT, ev_lenL, ev_lenS, ev_tupL, ev_tupT, ev_intI, ev_intB, ev_ixT, ev_ixL, ev_ixS, at0, at1, at2, at3, atM1, ev_seq, ev_set, ev_own, ev_ret, ev_drop, ev_sIf, ev_for, ev_frz, ev_asg, ev_par2, ev_par3, ev_mVal, ev_mOwn, ev_app, ev_setv, ev_sets0, ev_sets1, ev_stv, ev_bnm, ev_btp, ev_bl0, ev_bl1, ev_R1, ev_R2, ev_iL, ev_iT, ev_itL, ev_itT, ev_forNil, ev_nolI, ev_nolN, ev_nolS, ev_nolB, ev_nolT, ev_nolL0, ev_nolL1, ev_cTrue, ev_wipe, Rz.bind_ok, Rz.bind_exc, Rz.bind_bad, Rz.ofO_some, Rz.ofO_none, onR_ok, onR_exc, onR_bad, onO_some, onO_none, List.getElem?_cons_zero, List.getElem?_cons_succ, ite_true, ite_false, if_true, if_false, reduceIte, Nat.reduceEqDiff, reduceCtorEq, Option.map_some, Option.bind_some, List.cons_append, List.nil_append, Option.map_none, Bool.false_eq_true, Bool.not_true, Bool.not_false, decide_true, decide_false, decide_eq_true_eq, beq_self_eq_true, ev_iSq, ev_itS1, ev_itS2, ev_itS3, ev_itS4, ev_iEn, ev_enS1, ev_enS2, ev_iZp, ev_zpS1, ev_zpS2, ev_Ch, ev_Sl, ev_O0, ev_O1, ev_iO, ev_slT, ev_slL, ev_Rg, ev_Rg3, ev_Ls, ev_lsT, ev_lsL, ev_Isi, ev_Isi2, ev_Rev, ev_revT, ev_Wk, ev_wkN, ev_wkT, ev_tupN, ev_CntT, ev_ctT, ev_IxT, ev_ixT', ev_IxL, ev_ixL', ev_Cnt, ev_ctL, ev_Dic, ev_dg, ev_Sub, ev_Ext, ev_trI, ev_trT, ev_trL, ev_MmD, eq_self, ev_IsE, ev_CallH, ev_unN, ev_unR, ev_TryA, ev_Try, ev_exN, ev_exR, ev_exE, ev_tyN, ev_tyR, ev_tyE, ev_Raise, ev_noxN, ev_noxR, ev_Trg, ev_Cat, it, q]) (Rt.ret (by simp only [ev_C, ev_Var, ev_Bor, ev_Nl, ev_Bin, ev_Tup, ev_L, ev_Fn, ev_Call, ev_nil, ev_cons, ev_If, ev_And, ev_Or, ev_Not, ev_cAnd, ev_cOr, ev_cNot, ev_cB, ev_cTr, ev_toB, ev_IsN, ev_NotN, ev_isN_non, ev_isN_int, ev_isN_str, ev_isN_tup, ev_isN_bl, ev_MulL, ev_MulR, ev_DivC, ev_ModC, ev_Neg, ev_addI, ev_subI, ev_ltI, ev_leI, ev_gtI, ev_geI, ev_eqI, ev_neI, ev_eqS, ev_neS, ev_eqN, ev_neN, ev_eqNI, ev_neNI, ev_eqIN, ev_neIN, ev_eqB, ev_neB, ev_isB, ev_notB, ev_absI, ev_min2, ev_max2, ev_lenT, ev_lenL, ev_lenS, ev_tupL, ev_tupT, ev_intI, ev_intB, ev_ixT, ev_ixL, ev_ixS, at0, at1, at2, at3, atM1, ev_seq, ev_set, ev_own, ev_ret, ev_drop, ev_sIf, ev_for, ev_frz, ev_asg, ev_par2, ev_par3, ev_mVal, ev_mOwn, ev_app, ev_setv, ev_sets0, ev_sets1, ev_stv, ev_bnm, ev_btp, ev_bl0, ev_bl1, ev_R1, ev_R2, ev_iL, ev_iT, ev_itL, ev_itT, ev_forNil, ev_nolI, ev_nolN, ev_nolS, ev_nolB, ev_nolT, ev_nolL0, ev_nolL1, ev_cTrue, ev_wipe, Rz.bind_ok, Rz.bind_exc, Rz.bind_bad, Rz.ofO_some, Rz.ofO_none, onR_ok, onR_exc, onR_bad, onO_some, onO_none, List.getElem?_cons_zero, List.getElem?_cons_succ, ite_true, ite_false, if_true, if_false, reduceIte, Nat.reduceEqDiff, reduceCtorEq, Option.map_some, Option.bind_some, List.cons_append, List.nil_append, Option.map_none, Bool.false_eq_true, Bool.not_true, Bool.not_false, decide_true, decide_false, decide_eq_true_eq, beq_self_eq_true, ev_iSq, ev_itS1, ev_itS2, ev_itS3, ev_itS4, ev_iEn, ev_enS1, ev_enS2, ev_iZp, ev_zpS1, ev_zpS2, ev_Ch, ev_Sl, ev_O0, ev_O1, ev_iO, ev_slT, ev_slL, ev_Rg, ev_Rg3, ev_Ls, ev_lsT, ev_lsL, ev_Isi, ev_Isi2, ev_Rev, ev_revT, ev_Wk, ev_wkN, ev_wkT, ev_tupN, ev_CntT, ev_ctT, ev_IxT, ev_ixT', ev_IxL, ev_ixL', ev_Cnt, ev_ctL, ev_Dic, ev_dg, ev_Sub, ev_Ext, ev_trI, ev_trT, ev_trL, ev_MmD, eq_self, ev_IsE, ev_CallH, ev_unN, ev_unR, ev_TryA, ev_Try, ev_exN, ev_exR, ev_exE, ev_tyN, ev_tyR, ev_tyE, ev_Raise, ev_noxN, ev_noxR, ev_Trg, ev_Cat]))), fnD_of (Rt.ift (by simp only [ev_C, ev_Var, ev_Bor, ev_Nl, ev_Bin, ev_Tup, ev_L, ev_Fn, ev_Call, ev_nil, ev_cons, ev_If, ev_And, ev_Or, ev_Not, ev_cAnd, ev_cOr, ev_cNot, ev_cB, ev_cTr, ev_toB, ev_IsN, ev_NotN, ev_isN_non, ev_isN_int, ev_isN_str, ev_isN_tup, ev_isN_bl, ev_MulL, ev_MulR, ev_DivC, ev_ModC, ev_Neg, ev_addI, ev_subI, ev_ltI, ev_leI, ev_gtI, ev_geI, ev_eqI, ev_neI, ev_eqS, ev_neS, ev_eqN, ev_neN, ev_eqNI, ev_neNI, ev_eqIN, ev_neIN, ev_eqB, ev_neB, ev_isB, ev_notB, ev_absI, ev_min2, ev_max2, ev_lenT, ev_lenL, ev_lenS, ev_tupL, ev_tupT, ev_intI, ev_intB, ev_ixT, ev_ixL, ev_ixS, at0, at1, at2, at3, atM1, ev_seq, ev_set, ev_own, ev_ret, ev_drop, ev_sIf, ev_for, ev_frz, ev_asg, ev_par2, ev_par3, ev_mVal, ev_mOwn, ev_app, ev_setv, ev_sets0, ev_sets1, ev_stv, ev_bnm, ev_btp, ev_bl0, ev_bl1, ev_R1, ev_R2, ev_iL, ev_iT, ev_itL, ev_itT, ev_forNil, ev_nolI, ev_nolN, ev_nolS, ev_nolB, ev_nolT, ev_nolL0, ev_nolL1, ev_cTrue, ev_wipe, Rz.bind_ok, Rz.bind_exc, Rz.bind_bad, Rz.ofO_some, Rz.ofO_none, onR_ok, onR_exc, onR_bad, onO_some, onO_none, List.getElem?_cons_zero, List.getElem?_cons_succ, ite_true, ite_false, if_true, if_false, reduceIte, Nat.reduceEqDiff, reduceCtorEq, Option.map_some, Option.bind_some, List.cons_append, List.nil_append, Option.map_none, Bool.false_eq_true, Bool.not_true, Bool.not_false, decide_true, decide_false, decide_eq_true_eq, beq_self_eq_true, ev_iSq, ev_itS1, ev_itS2, ev_itS3, ev_itS4, ev_iEn, ev_enS1, ev_enS2, ev_iZp, ev_zpS1, ev_zpS2, ev_Ch, ev_Sl, ev_O0, ev_O1, ev_iO, ev_slT, ev_slL, ev_Rg, ev_Rg3, ev_Ls, ev_lsT, ev_lsL, ev_Isi, ev_Isi2, ev_Rev, ev_revT, ev_Wk, ev_wkN, ev_wkT, ev_tupN, ev_CntT, ev_ctT, ev_IxT, ev_ixT', ev_IxL, ev_ixL', ev_Cnt, ev_ctL, ev_Dic, ev_dg, ev_Sub, ev_Ext, ev_trI, ev_trT, ev_trL, ev_MmD, eq_self, ev_IsE, ev_CallH, ev_unN, ev_unR, ev_TryA, ev_Try, ev_exN, ev_exR, ev_exE, ev_tyN, ev_tyR, ev_tyE, ev_Raise, ev_noxN, ev_noxR, ev_Trg, ev_Cat, it, q]) (Rt.ret (by simp only [ev_C, ev_Var, ev_Bor, ev_Nl, ev_Bin, ev_Tup, ev_L, ev_Fn, ev_Call, ev_nil, ev_cons, ev_If, ev_And, ev_Or, ev_Not, ev_cAnd, ev_cOr, ev_cNot, ev_cB, ev_cTr, ev_toB, ev_IsN, ev_NotN, ev_isN_non, ev_isN_int, ev_isN_str, ev_isN_tup, ev_isN_bl, ev_MulL, ev_MulR, ev_DivC, ev_ModC, ev_Neg, ev_addI, ev_subI, ev_ltI, ev_leI, ev_gtI, ev_geI, ev_eqI, ev_neI, ev_eqS, ev_neS, ev_eqN, ev_neN, ev_eqNI, ev_neNI, ev_eqIN, ev_neIN, ev_eqB, ev_neB, ev_isB, ev_notB, ev_absI, ev_min2, ev_max2, ev_lenT, ev_lenL, ev_lenS, ev_tupL, ev_tupT, ev_intI, ev_intB, ev_ixT, ev_ixL, ev_ixS, at0, at1, at2, at3, atM1, ev_seq, ev_set, ev_own, ev_ret, ev_drop, ev_sIf, ev_for, ev_frz, ev_asg, ev_par2, ev_par3, ev_mVal, ev_mOwn, ev_app, ev_setv, ev_sets0, ev_sets1, ev_stv, ev_bnm, ev_btp, ev_bl0, ev_bl1, ev_R1, ev_R2, ev_iL, ev_iT, ev_itL, ev_itT, ev_forNil, ev_nolI, ev_nolN, ev_nolS, ev_nolB, ev_nolT, ev_nolL0, ev_nolL1, ev_cTrue, ev_wipe, Rz.bind_ok, Rz.bind_exc, Rz.bind_bad, Rz.ofO_some, Rz.ofO_none, onR_ok, onR_exc, onR_bad, onO_some, onO_none, List.getElem?_cons_zero, List.getElem?_cons_succ, ite_true, ite_false, if_true, if_false, reduceIte, Nat.reduceEqDiff, reduceCtorEq, Option.map_some, Option.bind_some, List.cons_append, List.nil_append, Option.map_none, Bool.false_eq_true, Bool.not_true, Bool.not_false, decide_true, decide_false, decide_eq_true_eq, beq_self_eq_true, ev_iSq, ev_itS1, ev_itS2, ev_itS3, ev_itS4, ev_iEn, ev_enS1, ev_enS2, ev_iZp, ev_zpS1, ev_zpS2, ev_Ch, ev_Sl, ev_O0, ev_O1, ev_iO, ev_slT, ev_slL, ev_Rg, ev_Rg3, ev_Ls, ev_lsT, ev_lsL, ev_Isi, ev_Isi2, ev_Rev, ev_revT, ev_Wk, ev_wkN, ev_wkT, ev_tupN, ev_CntT, ev_ctT, ev_IxT, ev_ixT', ev_IxL, ev_ixL', ev_Cnt, ev_ctL, ev_Dic, ev_dg, ev_Sub, ev_Ext, ev_trI, ev_trT, ev_trL, ev_MmD, eq_self, ev_IsE, ev_CallH, ev_unN, ev_unR, ev_TryA, ev_Try, ev_exN, ev_exR, ev_exE, ev_tyN, ev_tyR, ev_tyE, ev_Raise, ev_noxN, ev_noxR, ev_Trg, ev_Cat])))⟩
theorem bf_0 {a b c w : D} (h : F_is_whole [a, .int 9, .int 9999] = .ok (.bl false)) : BothF (.tup [a, b, c, w]) false := by
  have h2 : F_law_whole [a, .int 9, .int 9999] = .ok (.bl false) := h
  exact ⟨fnD_of (Rt.ift (by simp only [ev_C, ev_Var, ev_Bor, ev_Nl, ev_Bin, ev_Tup, ev_L, ev_Fn, ev_Call, ev_nil, ev_cons, ev_If, ev_And, ev_Or, ev_Not, ev_cAnd, ev_cOr, ev_cNot, ev_cB, ev_cTr, ev_toB, ev_IsN, ev_NotN, ev_isN_non, ev_isN_int, ev_isN_str, ev_isN_tup, ev_isN_bl, ev_MulL, ev_MulR, ev_DivC, ev_ModC, ev_Neg, ev_addI, ev_subI, ev_ltI, ev_leI, ev_gtI, ev_geI, ev_eqI, ev_neI, ev_eqS, ev_neS, ev_eqN, ev_neN, ev_eqNI, ev_neNI, ev_eqIN, ev_neIN, ev_eqB, ev_neB, ev_isB, ev_notB, ev_absI, ev_min2, ev_max2, ev_lenT, ev_lenL, ev_lenS, ev_tupL, ev_tupT, ev_intI, ev_intB, ev_ixT, ev_ixL, ev_ixS, at0, at1, at2, at3, atM1, ev_seq, ev_set, ev_own, ev_ret, ev_drop, ev_sIf, ev_for, ev_frz, ev_asg, ev_par2, ev_par3, ev_mVal, ev_mOwn, ev_app, ev_setv, ev_sets0, ev_sets1, ev_stv, ev_bnm, ev_btp, ev_bl0, ev_bl1, ev_R1, ev_R2, ev_iL, ev_iT, ev_itL, ev_itT, ev_forNil, ev_nolI, ev_nolN, ev_nolS, ev_nolB, ev_nolT, ev_nolL0, ev_nolL1, ev_cTrue, ev_wipe, Rz.bind_ok, Rz.bind_exc, Rz.bind_bad, Rz.ofO_some, Rz.ofO_none, onR_ok, onR_exc, onR_bad, onO_some, onO_none, List.getElem?_cons_zero, List.getElem?_cons_succ, ite_true, ite_false, if_true, if_false, reduceIte, Nat.reduceEqDiff, reduceCtorEq, Option.map_some, Option.bind_some, List.cons_append, List.nil_append, Option.map_none, Bool.false_eq_true, Bool.not_true, Bool.not_false, decide_true, decide_false, decide_eq_true_eq, beq_self_eq_true, ev_iSq, ev_itS1, ev_itS2, ev_itS3, ev_itS4, ev_iEn, ev_enS1, ev_enS2, ev_iZp, ev_zpS1, ev_zpS2, ev_Ch, ev_Sl, ev_O0, ev_O1, ev_iO, ev_slT, ev_slL, ev_Rg, ev_Rg3, ev_Ls, ev_lsT, ev_lsL, ev_Isi, ev_Isi2, ev_Rev, ev_revT, ev_Wk, ev_wkN, ev_wkT, ev_tupN, ev_CntT, ev_ctT, ev_IxT, ev_ixT', ev_IxL, ev_ixL', ev_Cnt, ev_ctL, ev_Dic, ev_dg, ev_Sub, ev_Ext, ev_trI, ev_trT, ev_trL, ev_MmD, eq_self, ev_IsE, ev_CallH, ev_unN, ev_unR, ev_TryA, ev_Try, ev_exN, ev_exR, ev_exE, ev_tyN, ev_tyR, ev_tyE, ev_Raise, ev_noxN, ev_noxR, ev_Trg, ev_Cat, it, len4, h]) (Rt.ret (by simp only [ev_C, ev_Var, ev_Bor, ev_Nl, ev_Bin, ev_Tup, ev_L, ev_Fn, ev_Call, ev_nil, ev_cons, ev_If, ev_And, ev_Or, ev_Not, ev_cAnd, ev_cOr, ev_cNot, ev_cB, ev_cTr, ev_toB, ev_IsN, ev_NotN, ev_isN_non, ev_isN_int, ev_isN_str, ev_isN_tup, ev_isN_bl, ev_MulL, ev_MulR, ev_DivC, ev_ModC, ev_Neg, ev_addI, ev_subI, ev_ltI, ev_leI, ev_gtI, ev_geI, ev_eqI, ev_neI, ev_eqS, ev_neS, ev_eqN, ev_neN, ev_eqNI, ev_neNI, ev_eqIN, ev_neIN, ev_eqB, ev_neB, ev_isB, ev_notB, ev_absI, ev_min2, ev_max2, ev_lenT, ev_lenL, ev_lenS, ev_tupL, ev_tupT, ev_intI, ev_intB, ev_ixT, ev_ixL, ev_ixS, at0, at1, at2, at3, atM1, ev_seq, ev_set, ev_own, ev_ret, ev_drop, ev_sIf, ev_for, ev_frz, ev_asg, ev_par2, ev_par3, ev_mVal, ev_mOwn, ev_app, ev_setv, ev_sets0, ev_sets1, ev_stv, ev_bnm, ev_btp, ev_bl0, ev_bl1, ev_R1, ev_R2, ev_iL, ev_iT, ev_itL, ev_itT, ev_forNil, ev_nolI, ev_nolN, ev_nolS, ev_nolB, ev_nolT, ev_nolL0, ev_nolL1, ev_cTrue, ev_wipe, Rz.bind_ok, Rz.bind_exc, Rz.bind_bad, Rz.ofO_some, Rz.ofO_none, onR_ok, onR_exc, onR_bad, onO_some, onO_none, List.getElem?_cons_zero, List.getElem?_cons_succ, ite_true, ite_false, if_true, if_false, reduceIte, Nat.reduceEqDiff, reduceCtorEq, Option.map_some, Option.bind_some, List.cons_append, List.nil_append, Option.map_none, Bool.false_eq_true, Bool.not_true, Bool.not_false, decide_true, decide_false, decide_eq_true_eq, beq_self_eq_true, ev_iSq, ev_itS1, ev_itS2, ev_itS3, ev_itS4, ev_iEn, ev_enS1, ev_enS2, ev_iZp, ev_zpS1, ev_zpS2, ev_Ch, ev_Sl, ev_O0, ev_O1, ev_iO, ev_slT, ev_slL, ev_Rg, ev_Rg3, ev_Ls, ev_lsT, ev_lsL, ev_Isi, ev_Isi2, ev_Rev, ev_revT, ev_Wk, ev_wkN, ev_wkT, ev_tupN, ev_CntT, ev_ctT, ev_IxT, ev_ixT', ev_IxL, ev_ixL', ev_Cnt, ev_ctL, ev_Dic, ev_dg, ev_Sub, ev_Ext, ev_trI, ev_trT, ev_trL, ev_MmD, eq_self, ev_IsE, ev_CallH, ev_unN, ev_unR, ev_TryA, ev_Try, ev_exN, ev_exR, ev_exE, ev_tyN, ev_tyR, ev_tyE, ev_Raise, ev_noxN, ev_noxR, ev_Trg, ev_Cat]))), fnD_of (Rt.ift (by simp only [ev_C, ev_Var, ev_Bor, ev_Nl, ev_Bin, ev_Tup, ev_L, ev_Fn, ev_Call, ev_nil, ev_cons, ev_If, ev_And, ev_Or, ev_Not, ev_cAnd, ev_cOr, ev_cNot, ev_cB, ev_cTr, ev_toB, ev_IsN, ev_NotN, ev_isN_non, ev_isN_int, ev_isN_str, ev_isN_tup, ev_isN_bl, ev_MulL, ev_MulR, ev_DivC, ev_ModC, ev_Neg, ev_addI, ev_subI, ev_ltI, ev_leI, ev_gtI, ev_geI, ev_eqI, ev_neI, ev_eqS, ev_neS, ev_eqN, ev_neN, ev_eqNI, ev_neNI, ev_eqIN, ev_neIN, ev_eqB, ev_neB, ev_isB, ev_notB, ev_absI, ev_min2, ev_max2, ev_lenT, ev_lenL, ev_lenS, ev_tupL, ev_tupT, ev_intI, ev_intB, ev_ixT, ev_ixL, ev_ixS, at0, at1, at2, at3, atM1, ev_seq, ev_set, ev_own, ev_ret, ev_drop, ev_sIf, ev_for, ev_frz, ev_asg, ev_par2, ev_par3, ev_mVal, ev_mOwn, ev_app, ev_setv, ev_sets0, ev_sets1, ev_stv, ev_bnm, ev_btp, ev_bl0, ev_bl1, ev_R1, ev_R2, ev_iL, ev_iT, ev_itL, ev_itT, ev_forNil, ev_nolI, ev_nolN, ev_nolS, ev_nolB, ev_nolT, ev_nolL0, ev_nolL1, ev_cTrue, ev_wipe, Rz.bind_ok, Rz.bind_exc, Rz.bind_bad, Rz.ofO_some, Rz.ofO_none, onR_ok, onR_exc, onR_bad, onO_some, onO_none, List.getElem?_cons_zero, List.getElem?_cons_succ, ite_true, ite_false, if_true, if_false, reduceIte, Nat.reduceEqDiff, reduceCtorEq, Option.map_some, Option.bind_some, List.cons_append, List.nil_append, Option.map_none, Bool.false_eq_true, Bool.not_true, Bool.not_false, decide_true, decide_false, decide_eq_true_eq, beq_self_eq_true, ev_iSq, ev_itS1, ev_itS2, ev_itS3, ev_itS4, ev_iEn, ev_enS1, ev_enS2, ev_iZp, ev_zpS1, ev_zpS2, ev_Ch, ev_Sl, ev_O0, ev_O1, ev_iO, ev_slT, ev_slL, ev_Rg, ev_Rg3, ev_Ls, ev_lsT, ev_lsL, ev_Isi, ev_Isi2, ev_Rev, ev_revT, ev_Wk, ev_wkN, ev_wkT, ev_tupN, ev_CntT, ev_ctT, ev_IxT, ev_ixT', ev_IxL, ev_ixL', ev_Cnt, ev_ctL, ev_Dic, ev_dg, ev_Sub, ev_Ext, ev_trI, ev_trT, ev_trL, ev_MmD, eq_self, ev_IsE, ev_CallH, ev_unN, ev_unR, ev_TryA, ev_Try, ev_exN, ev_exR, ev_exE, ev_tyN, ev_tyR, ev_tyE, ev_Raise, ev_noxN, ev_noxR, ev_Trg, ev_Cat, it, len4, h2]) (Rt.ret (by simp only [ev_C, ev_Var, ev_Bor, ev_Nl, ev_Bin, ev_Tup, ev_L, ev_Fn, ev_Call, ev_nil, ev_cons, ev_If, ev_And, ev_Or, ev_Not, ev_cAnd, ev_cOr, ev_cNot, ev_cB, ev_cTr, ev_toB, ev_IsN, ev_NotN, ev_isN_non, ev_isN_int, ev_isN_str, ev_isN_tup, ev_isN_bl, ev_MulL, ev_MulR, ev_DivC, ev_ModC, ev_Neg, ev_addI, ev_subI, ev_ltI, ev_leI, ev_gtI, ev_geI, ev_eqI, ev_neI, ev_eqS, ev_neS, ev_eqN, ev_neN, ev_eqNI, ev_neNI, ev_eqIN, ev_neIN, ev_eqB, ev_neB, ev_isB, ev_notB, ev_absI, ev_min2, ev_max2, ev_lenT, ev_lenL, ev_lenS, ev_tupL, ev_tupT, ev_intI, ev_intB, ev_ixT, ev_ixL, ev_ixS, at0, at1, at2, at3, atM1, ev_seq, ev_set, ev_own, ev_ret, ev_drop, ev_sIf, ev_for, ev_frz, ev_asg, ev_par2, ev_par3, ev_mVal, ev_mOwn, ev_app, ev_setv, ev_sets0, ev_sets1, ev_stv, ev_bnm, ev_btp, ev_bl0, ev_bl1, ev_R1, ev_R2, ev_iL, ev_iT, ev_itL, ev_itT, ev_forNil, ev_nolI, ev_nolN, ev_nolS, ev_nolB, ev_nolT, ev_nolL0, ev_nolL1, ev_cTrue, ev_wipe, Rz.bind_ok, Rz.bind_exc, Rz.bind_bad, Rz.ofO_some, Rz.ofO_none, onR_ok, onR_exc, onR_bad, onO_some, onO_none, List.getElem?_cons_zero, List.getElem?_cons_succ, ite_true, ite_false, if_true, if_false, reduceIte, Nat.reduceEqDiff, reduceCtorEq, Option.map_some, Option.bind_some, List.cons_append, List.nil_append, Option.map_none, Bool.false_eq_true, Bool.not_true, Bool.not_false, decide_true, decide_false, decide_eq_true_eq, beq_self_eq_true, ev_iSq, ev_itS1, ev_itS2, ev_itS3, ev_itS4, ev_iEn, ev_enS1, ev_enS2, ev_iZp, ev_zpS1, ev_zpS2, ev_Ch, ev_Sl, ev_O0, ev_O1, ev_iO, ev_slT, ev_slL, ev_Rg, ev_Rg3, ev_Ls, ev_lsT, ev_lsL, ev_Isi, ev_Isi2, ev_Rev, ev_revT, ev_Wk, ev_wkN, ev_wkT, ev_tupN, ev_CntT, ev_ctT, ev_IxT, ev_ixT', ev_IxL, ev_ixL', ev_Cnt, ev_ctL, ev_Dic, ev_dg, ev_Sub, ev_Ext, ev_trI, ev_trT, ev_trL, ev_MmD, eq_self, ev_IsE, ev_CallH, ev_unN, ev_unR, ev_TryA, ev_Try, ev_exN, ev_exR, ev_exE, ev_tyN, ev_tyR, ev_tyE, ev_Raise, ev_noxN, ev_noxR, ev_Trg, ev_Cat])))⟩
section
variable {f : Int} {b c w : D} (h0 : F_is_whole [.int f, .int 9, .int 9999] = .ok (.bl true))
include h0
theorem bf_1 {x y : Bool} (h1 : F_is_whole [b, .int 0, .int (f - 1)] = .ok (.bl x)) (h2 : F_is_whole [w, .int 0, .int 5] = .ok (.bl y)) (hxy : x = false ∨ y = false) : BothF (.tup [.int f, b, c, w]) false := by
  have g0 : F_law_whole [.int f, .int 9, .int 9999] = .ok (.bl true) := h0
  have g1 : F_law_whole [b, .int 0, .int (f - 1)] = .ok (.bl x) := h1
  have g2 : F_law_whole [w, .int 0, .int 5] = .ok (.bl y) := h2
  refine ⟨fnD_of (Rt.iff (by simp only [ev_C, ev_Var, ev_Bor, ev_Nl, ev_Bin, ev_Tup, ev_L, ev_Fn, ev_Call, ev_nil, ev_cons, ev_If, ev_And, ev_Or, ev_Not, ev_cAnd, ev_cOr, ev_cNot, ev_cB, ev_cTr, ev_toB, ev_IsN, ev_NotN, ev_isN_non, ev_isN_int, ev_isN_str, ev_isN_tup, ev_isN_bl, ev_MulL, ev_MulR, ev_DivC, ev_ModC, ev_Neg, ev_addI, ev_subI, ev_ltI, ev_leI, ev_gtI, ev_geI, ev_eqI, ev_neI, ev_eqS, ev_neS, ev_eqN, ev_neN, ev_eqNI, ev_neNI, ev_eqIN, ev_neIN, ev_eqB, ev_neB, ev_isB, ev_notB, ev_absI, ev_min2, ev_max2, ev_lenT, ev_lenL, ev_lenS, ev_tupL, ev_tupT, ev_intI, ev_intB, ev_ixT, ev_ixL, ev_ixS, at0, at1, at2, at3, atM1, ev_seq, ev_set, ev_own, ev_ret, ev_drop, ev_sIf, ev_for, ev_frz, ev_asg, ev_par2, ev_par3, ev_mVal, ev_mOwn, ev_app, ev_setv, ev_sets0, ev_sets1, ev_stv, ev_bnm, ev_btp, ev_bl0, ev_bl1, ev_R1, ev_R2, ev_iL, ev_iT, ev_itL, ev_itT, ev_forNil, ev_nolI, ev_nolN, ev_nolS, ev_nolB, ev_nolT, ev_nolL0, ev_nolL1, ev_cTrue, ev_wipe, Rz.bind_ok, Rz.bind_exc, Rz.bind_bad, Rz.ofO_some, Rz.ofO_none, onR_ok, onR_exc, onR_bad, onO_some, onO_none, List.getElem?_cons_zero, List.getElem?_cons_succ, ite_true, ite_false, if_true, if_false, reduceIte, Nat.reduceEqDiff, reduceCtorEq, Option.map_some, Option.bind_some, List.cons_append, List.nil_append, Option.map_none, Bool.false_eq_true, Bool.not_true, Bool.not_false, decide_true, decide_false, decide_eq_true_eq, beq_self_eq_true, ev_iSq, ev_itS1, ev_itS2, ev_itS3, ev_itS4, ev_iEn, ev_enS1, ev_enS2, ev_iZp, ev_zpS1, ev_zpS2, ev_Ch, ev_Sl, ev_O0, ev_O1, ev_iO, ev_slT, ev_slL, ev_Rg, ev_Rg3, ev_Ls, ev_lsT, ev_lsL, ev_Isi, ev_Isi2, ev_Rev, ev_revT, ev_Wk, ev_wkN, ev_wkT, ev_tupN, ev_CntT, ev_ctT, ev_IxT, ev_ixT', ev_IxL, ev_ixL', ev_Cnt, ev_ctL, ev_Dic, ev_dg, ev_Sub, ev_Ext, ev_trI, ev_trT, ev_trL, ev_MmD, eq_self, ev_IsE, ev_CallH, ev_unN, ev_unR, ev_TryA, ev_Try, ev_exN, ev_exR, ev_exE, ev_tyN, ev_tyR, ev_tyE, ev_Raise, ev_noxN, ev_noxR, ev_Trg, ev_Cat, it, len4, h0]) (Rt.seq (e1 := _) (by simp only [ev_C, ev_Var, ev_Bor, ev_Nl, ev_Bin, ev_Tup, ev_L, ev_Fn, ev_Call, ev_nil, ev_cons, ev_If, ev_And, ev_Or, ev_Not, ev_cAnd, ev_cOr, ev_cNot, ev_cB, ev_cTr, ev_toB, ev_IsN, ev_NotN, ev_isN_non, ev_isN_int, ev_isN_str, ev_isN_tup, ev_isN_bl, ev_MulL, ev_MulR, ev_DivC, ev_ModC, ev_Neg, ev_addI, ev_subI, ev_ltI, ev_leI, ev_gtI, ev_geI, ev_eqI, ev_neI, ev_eqS, ev_neS, ev_eqN, ev_neN, ev_eqNI, ev_neNI, ev_eqIN, ev_neIN, ev_eqB, ev_neB, ev_isB, ev_notB, ev_absI, ev_min2, ev_max2, ev_lenT, ev_lenL, ev_lenS, ev_tupL, ev_tupT, ev_intI, ev_intB, ev_ixT, ev_ixL, ev_ixS, at0, at1, at2, at3, atM1, ev_seq, ev_set, ev_own, ev_ret, ev_drop, ev_sIf, ev_for, ev_frz, ev_asg, ev_par2, ev_par3, ev_mVal, ev_mOwn, ev_app, ev_setv, ev_sets0, ev_sets1, ev_stv, ev_bnm, ev_btp, ev_bl0, ev_bl1, ev_R1, ev_R2, ev_iL, ev_iT, ev_itL, ev_itT, ev_forNil, ev_nolI, ev_nolN, ev_nolS, ev_nolB, ev_nolT, ev_nolL0, ev_nolL1, ev_cTrue, ev_wipe, Rz.bind_ok, Rz.bind_exc, Rz.bind_bad, Rz.ofO_some, Rz.ofO_none, onR_ok, onR_exc, onR_bad, onO_some, onO_none, List.getElem?_cons_zero, List.getElem?_cons_succ, ite_true, ite_false, if_true, if_false, reduceIte, Nat.reduceEqDiff, reduceCtorEq, Option.map_some, Option.bind_some, List.cons_append, List.nil_append, Option.map_none, Bool.false_eq_true, Bool.not_true, Bool.not_false, decide_true, decide_false, decide_eq_true_eq, beq_self_eq_true, ev_iSq, ev_itS1, ev_itS2, ev_itS3, ev_itS4, ev_iEn, ev_enS1, ev_enS2, ev_iZp, ev_zpS1, ev_zpS2, ev_Ch, ev_Sl, ev_O0, ev_O1, ev_iO, ev_slT, ev_slL, ev_Rg, ev_Rg3, ev_Ls, ev_lsT, ev_lsL, ev_Isi, ev_Isi2, ev_Rev, ev_revT, ev_Wk, ev_wkN, ev_wkT, ev_tupN, ev_CntT, ev_ctT, ev_IxT, ev_ixT', ev_IxL, ev_ixL', ev_Cnt, ev_ctL, ev_Dic, ev_dg, ev_Sub, ev_Ext, ev_trI, ev_trT, ev_trL, ev_MmD, eq_self, ev_IsE, ev_CallH, ev_unN, ev_unR, ev_TryA, ev_Try, ev_exN, ev_exR, ev_exE, ev_tyN, ev_tyR, ev_tyE, ev_Raise, ev_noxN, ev_noxR, ev_Trg, ev_Cat]; rfl) (Rt.ift ?_ (Rt.ret (by simp only [ev_C, ev_Var, ev_Bor, ev_Nl, ev_Bin, ev_Tup, ev_L, ev_Fn, ev_Call, ev_nil, ev_cons, ev_If, ev_And, ev_Or, ev_Not, ev_cAnd, ev_cOr, ev_cNot, ev_cB, ev_cTr, ev_toB, ev_IsN, ev_NotN, ev_isN_non, ev_isN_int, ev_isN_str, ev_isN_tup, ev_isN_bl, ev_MulL, ev_MulR, ev_DivC, ev_ModC, ev_Neg, ev_addI, ev_subI, ev_ltI, ev_leI, ev_gtI, ev_geI, ev_eqI, ev_neI, ev_eqS, ev_neS, ev_eqN, ev_neN, ev_eqNI, ev_neNI, ev_eqIN, ev_neIN, ev_eqB, ev_neB, ev_isB, ev_notB, ev_absI, ev_min2, ev_max2, ev_lenT, ev_lenL, ev_lenS, ev_tupL, ev_tupT, ev_intI, ev_intB, ev_ixT, ev_ixL, ev_ixS, at0, at1, at2, at3, atM1, ev_seq, ev_set, ev_own, ev_ret, ev_drop, ev_sIf, ev_for, ev_frz, ev_asg, ev_par2, ev_par3, ev_mVal, ev_mOwn, ev_app, ev_setv, ev_sets0, ev_sets1, ev_stv, ev_bnm, ev_btp, ev_bl0, ev_bl1, ev_R1, ev_R2, ev_iL, ev_iT, ev_itL, ev_itT, ev_forNil, ev_nolI, ev_nolN, ev_nolS, ev_nolB, ev_nolT, ev_nolL0, ev_nolL1, ev_cTrue, ev_wipe, Rz.bind_ok, Rz.bind_exc, Rz.bind_bad, Rz.ofO_some, Rz.ofO_none, onR_ok, onR_exc, onR_bad, onO_some, onO_none, List.getElem?_cons_zero, List.getElem?_cons_succ, ite_true, ite_false, if_true, if_false, reduceIte, Nat.reduceEqDiff, reduceCtorEq, Option.map_some, Option.bind_some, List.cons_append, List.nil_append, Option.map_none, Bool.false_eq_true, Bool.not_true, Bool.not_false, decide_true, decide_false, decide_eq_true_eq, beq_self_eq_true, ev_iSq, ev_itS1, ev_itS2, ev_itS3, ev_itS4, ev_iEn, ev_enS1, ev_enS2, ev_iZp, ev_zpS1, ev_zpS2, ev_Ch, ev_Sl, ev_O0, ev_O1, ev_iO, ev_slT, ev_slL, ev_Rg, ev_Rg3, ev_Ls, ev_lsT, ev_lsL, ev_Isi, ev_Isi2, ev_Rev, ev_revT, ev_Wk, ev_wkN, ev_wkT, ev_tupN, ev_CntT, ev_ctT, ev_IxT, ev_ixT', ev_IxL, ev_ixL', ev_Cnt, ev_ctL, ev_Dic, ev_dg, ev_Sub, ev_Ext, ev_trI, ev_trT, ev_trL, ev_MmD, eq_self, ev_IsE, ev_CallH, ev_unN, ev_unR, ev_TryA, ev_Try, ev_exN, ev_exR, ev_exE, ev_tyN, ev_tyR, ev_tyE, ev_Raise, ev_noxN, ev_noxR, ev_Trg, ev_Cat]))))), fnD_of (Rt.iff (by simp only [ev_C, ev_Var, ev_Bor, ev_Nl, ev_Bin, ev_Tup, ev_L, ev_Fn, ev_Call, ev_nil, ev_cons, ev_If, ev_And, ev_Or, ev_Not, ev_cAnd, ev_cOr, ev_cNot, ev_cB, ev_cTr, ev_toB, ev_IsN, ev_NotN, ev_isN_non, ev_isN_int, ev_isN_str, ev_isN_tup, ev_isN_bl, ev_MulL, ev_MulR, ev_DivC, ev_ModC, ev_Neg, ev_addI, ev_subI, ev_ltI, ev_leI, ev_gtI, ev_geI, ev_eqI, ev_neI, ev_eqS, ev_neS, ev_eqN, ev_neN, ev_eqNI, ev_neNI, ev_eqIN, ev_neIN, ev_eqB, ev_neB, ev_isB, ev_notB, ev_absI, ev_min2, ev_max2, ev_lenT, ev_lenL, ev_lenS, ev_tupL, ev_tupT, ev_intI, ev_intB, ev_ixT, ev_ixL, ev_ixS, at0, at1, at2, at3, atM1, ev_seq, ev_set, ev_own, ev_ret, ev_drop, ev_sIf, ev_for, ev_frz, ev_asg, ev_par2, ev_par3, ev_mVal, ev_mOwn, ev_app, ev_setv, ev_sets0, ev_sets1, ev_stv, ev_bnm, ev_btp, ev_bl0, ev_bl1, ev_R1, ev_R2, ev_iL, ev_iT, ev_itL, ev_itT, ev_forNil, ev_nolI, ev_nolN, ev_nolS, ev_nolB, ev_nolT, ev_nolL0, ev_nolL1, ev_cTrue, ev_wipe, Rz.bind_ok, Rz.bind_exc, Rz.bind_bad, Rz.ofO_some, Rz.ofO_none, onR_ok, onR_exc, onR_bad, onO_some, onO_none, List.getElem?_cons_zero, List.getElem?_cons_succ, ite_true, ite_false, if_true, if_false, reduceIte, Nat.reduceEqDiff, reduceCtorEq, Option.map_some, Option.bind_some, List.cons_append, List.nil_append, Option.map_none, Bool.false_eq_true, Bool.not_true, Bool.not_false, decide_true, decide_false, decide_eq_true_eq, beq_self_eq_true, ev_iSq, ev_itS1, ev_itS2, ev_itS3, ev_itS4, ev_iEn, ev_enS1, ev_enS2, ev_iZp, ev_zpS1, ev_zpS2, ev_Ch, ev_Sl, ev_O0, ev_O1, ev_iO, ev_slT, ev_slL, ev_Rg, ev_Rg3, ev_Ls, ev_lsT, ev_lsL, ev_Isi, ev_Isi2, ev_Rev, ev_revT, ev_Wk, ev_wkN, ev_wkT, ev_tupN, ev_CntT, ev_ctT, ev_IxT, ev_ixT', ev_IxL, ev_ixL', ev_Cnt, ev_ctL, ev_Dic, ev_dg, ev_Sub, ev_Ext, ev_trI, ev_trT, ev_trL, ev_MmD, eq_self, ev_IsE, ev_CallH, ev_unN, ev_unR, ev_TryA, ev_Try, ev_exN, ev_exR, ev_exE, ev_tyN, ev_tyR, ev_tyE, ev_Raise, ev_noxN, ev_noxR, ev_Trg, ev_Cat, it, len4, g0]) (Rt.ift ?_ (Rt.ret (by simp only [ev_C, ev_Var, ev_Bor, ev_Nl, ev_Bin, ev_Tup, ev_L, ev_Fn, ev_Call, ev_nil, ev_cons, ev_If, ev_And, ev_Or, ev_Not, ev_cAnd, ev_cOr, ev_cNot, ev_cB, ev_cTr, ev_toB, ev_IsN, ev_NotN, ev_isN_non, ev_isN_int, ev_isN_str, ev_isN_tup, ev_isN_bl, ev_MulL, ev_MulR, ev_DivC, ev_ModC, ev_Neg, ev_addI, ev_subI, ev_ltI, ev_leI, ev_gtI, ev_geI, ev_eqI, ev_neI, ev_eqS, ev_neS, ev_eqN, ev_neN, ev_eqNI, ev_neNI, ev_eqIN, ev_neIN, ev_eqB, ev_neB, ev_isB, ev_notB, ev_absI, ev_min2, ev_max2, ev_lenT, ev_lenL, ev_lenS, ev_tupL, ev_tupT, ev_intI, ev_intB, ev_ixT, ev_ixL, ev_ixS, at0, at1, at2, at3, atM1, ev_seq, ev_set, ev_own, ev_ret, ev_drop, ev_sIf, ev_for, ev_frz, ev_asg, ev_par2, ev_par3, ev_mVal, ev_mOwn, ev_app, ev_setv, ev_sets0, ev_sets1, ev_stv, ev_bnm, ev_btp, ev_bl0, ev_bl1, ev_R1, ev_R2, ev_iL, ev_iT, ev_itL, ev_itT, ev_forNil, ev_nolI, ev_nolN, ev_nolS, ev_nolB, ev_nolT, ev_nolL0, ev_nolL1, ev_cTrue, ev_wipe, Rz.bind_ok, Rz.bind_exc, Rz.bind_bad, Rz.ofO_some, Rz.ofO_none, onR_ok, onR_exc, onR_bad, onO_some, onO_none, List.getElem?_cons_zero, List.getElem?_cons_succ, ite_true, ite_false, if_true, if_false, reduceIte, Nat.reduceEqDiff, reduceCtorEq, Option.map_some, Option.bind_some, List.cons_append, List.nil_append, Option.map_none, Bool.false_eq_true, Bool.not_true, Bool.not_false, decide_true, decide_false, decide_eq_true_eq, beq_self_eq_true, ev_iSq, ev_itS1, ev_itS2, ev_itS3, ev_itS4, ev_iEn, ev_enS1, ev_enS2, ev_iZp, ev_zpS1, ev_zpS2, ev_Ch, ev_Sl, ev_O0, ev_O1, ev_iO, ev_slT, ev_slL, ev_Rg, ev_Rg3, ev_Ls, ev_lsT, ev_lsL, ev_Isi, ev_Isi2, ev_Rev, ev_revT, ev_Wk, ev_wkN, ev_wkT, ev_tupN, ev_CntT, ev_ctT, ev_IxT, ev_ixT', ev_IxL, ev_ixL', ev_Cnt, ev_ctL, ev_Dic, ev_dg, ev_Sub, ev_Ext, ev_trI, ev_trT, ev_trL, ev_MmD, eq_self, ev_IsE, ev_CallH, ev_unN, ev_unR, ev_TryA, ev_Try, ev_exN, ev_exR, ev_exE, ev_tyN, ev_tyR, ev_tyE, ev_Raise, ev_noxN, ev_noxR, ev_Trg, ev_Cat]))))⟩
  · cases x <;> cases y <;> simp at hxy <;> simp only [ev_C, ev_Var, ev_Bor, ev_Nl, ev_Bin, ev_Tup, ev_L, ev_Fn, ev_Call, ev_nil, ev_cons, ev_If, ev_And, ev_Or, ev_Not, ev_cAnd, ev_cOr, ev_cNot, ev_cB, ev_cTr, ev_toB, ev_IsN, ev_NotN, ev_isN_non, ev_isN_int, ev_isN_str, ev_isN_tup, ev_isN_bl, ev_MulL, ev_MulR, ev_DivC, ev_ModC, ev_Neg, ev_addI, ev_subI, ev_ltI, ev_leI, ev_gtI, ev_geI, ev_eqI, ev_neI, ev_eqS, ev_neS, ev_eqN, ev_neN, ev_eqNI, ev_neNI, ev_eqIN, ev_neIN, ev_eqB, ev_neB, ev_isB, ev_notB, ev_absI, ev_min2, ev_max2, ev_lenT, ev_lenL, ev_lenS, ev_tupL, ev_tupT, ev_intI, ev_intB, ev_ixT, ev_ixL, ev_ixS, at0, at1, at2, at3, atM1, ev_seq, ev_set, ev_own, ev_ret, ev_drop, ev_sIf, ev_for, ev_frz, ev_asg, ev_par2, ev_par3, ev_mVal, ev_mOwn, ev_app, ev_setv, ev_sets0, ev_sets1, ev_stv, ev_bnm, ev_btp, ev_bl0, ev_bl1, ev_R1, ev_R2, ev_iL, ev_iT, ev_itL, ev_itT, ev_forNil, ev_nolI, ev_nolN, ev_nolS, ev_nolB, ev_nolT, ev_nolL0, ev_nolL1, ev_cTrue, ev_wipe, Rz.bind_ok, Rz.bind_exc, Rz.bind_bad, Rz.ofO_some, Rz.ofO_none, onR_ok, onR_exc, onR_bad, onO_some, onO_none, List.getElem?_cons_zero, List.getElem?_cons_succ, ite_true, ite_false, if_true, if_false, reduceIte, Nat.reduceEqDiff, reduceCtorEq, Option.map_some, Option.bind_some, List.cons_append, List.nil_append, Option.map_none, Bool.false_eq_true, Bool.not_true, Bool.not_false, decide_true, decide_false, decide_eq_true_eq, beq_self_eq_true, ev_iSq, ev_itS1, ev_itS2, ev_itS3, ev_itS4, ev_iEn, ev_enS1, ev_enS2, ev_iZp, ev_zpS1, ev_zpS2, ev_Ch, ev_Sl, ev_O0, ev_O1, ev_iO, ev_slT, ev_slL, ev_Rg, ev_Rg3, ev_Ls, ev_lsT, ev_lsL, ev_Isi, ev_Isi2, ev_Rev, ev_revT, ev_Wk, ev_wkN, ev_wkT, ev_tupN, ev_CntT, ev_ctT, ev_IxT, ev_ixT', ev_IxL, ev_ixL', ev_Cnt, ev_ctL, ev_Dic, ev_dg, ev_Sub, ev_Ext, ev_trI, ev_trT, ev_trL, ev_MmD, eq_self, ev_IsE, ev_CallH, ev_unN, ev_unR, ev_TryA, ev_Try, ev_exN, ev_exR, ev_exE, ev_tyN, ev_tyR, ev_tyE, ev_Raise, ev_noxN, ev_noxR, ev_Trg, ev_Cat, h1, h2]
  · cases x <;> cases y <;> simp at hxy <;> simp only [ev_C, ev_Var, ev_Bor, ev_Nl, ev_Bin, ev_Tup, ev_L, ev_Fn, ev_Call, ev_nil, ev_cons, ev_If, ev_And, ev_Or, ev_Not, ev_cAnd, ev_cOr, ev_cNot, ev_cB, ev_cTr, ev_toB, ev_IsN, ev_NotN, ev_isN_non, ev_isN_int, ev_isN_str, ev_isN_tup, ev_isN_bl, ev_MulL, ev_MulR, ev_DivC, ev_ModC, ev_Neg, ev_addI, ev_subI, ev_ltI, ev_leI, ev_gtI, ev_geI, ev_eqI, ev_neI, ev_eqS, ev_neS, ev_eqN, ev_neN, ev_eqNI, ev_neNI, ev_eqIN, ev_neIN, ev_eqB, ev_neB, ev_isB, ev_notB, ev_absI, ev_min2, ev_max2, ev_lenT, ev_lenL, ev_lenS, ev_tupL, ev_tupT, ev_intI, ev_intB, ev_ixT, ev_ixL, ev_ixS, at0, at1, at2, at3, atM1, ev_seq, ev_set, ev_own, ev_ret, ev_drop, ev_sIf, ev_for, ev_frz, ev_asg, ev_par2, ev_par3, ev_mVal, ev_mOwn, ev_app, ev_setv, ev_sets0, ev_sets1, ev_stv, ev_bnm, ev_btp, ev_bl0, ev_bl1, ev_R1, ev_R2, ev_iL, ev_iT, ev_itL, ev_itT, ev_forNil, ev_nolI, ev_nolN, ev_nolS, ev_nolB, ev_nolT, ev_nolL0, ev_nolL1, ev_cTrue, ev_wipe, Rz.bind_ok, Rz.bind_exc, Rz.bind_bad, Rz.ofO_some, Rz.ofO_none, onR_ok, onR_exc, onR_bad, onO_some, onO_none, List.getElem?_cons_zero, List.getElem?_cons_succ, ite_true, ite_false, if_true, if_false, reduceIte, Nat.reduceEqDiff, reduceCtorEq, Option.map_some, Option.bind_some, List.cons_append, List.nil_append, Option.map_none, Bool.false_eq_true, Bool.not_true, Bool.not_false, decide_true, decide_false, decide_eq_true_eq, beq_self_eq_true, ev_iSq, ev_itS1, ev_itS2, ev_itS3, ev_itS4, ev_iEn, ev_enS1, ev_enS2, ev_iZp, ev_zpS1, ev_zpS2, ev_Ch, ev_Sl, ev_O0, ev_O1, ev_iO, ev_slT, ev_slL, ev_Rg, ev_Rg3, ev_Ls, ev_lsT, ev_lsL, ev_Isi, ev_Isi2, ev_Rev, ev_revT, ev_Wk, ev_wkN, ev_wkT, ev_tupN, ev_CntT, ev_ctT, ev_IxT, ev_ixT', ev_IxL, ev_ixL', ev_Cnt, ev_ctL, ev_Dic, ev_dg, ev_Sub, ev_Ext, ev_trI, ev_trT, ev_trL, ev_MmD, eq_self, ev_IsE, ev_CallH, ev_unN, ev_unR, ev_TryA, ev_Try, ev_exN, ev_exR, ev_exE, ev_tyN, ev_tyR, ev_tyE, ev_Raise, ev_noxN, ev_noxR, ev_Trg, ev_Cat, g1, g2]
variable (h1 : F_is_whole [b, .int 0, .int (f - 1)] = .ok (.bl true)) (h2 : F_is_whole [w, .int 0, .int 5] = .ok (.bl true))
include h1 h2
theorem bf_2 (h : isiG "tuple" c = some false) : BothF (.tup [.int f, b, c, w]) false := by
  have g0 : F_law_whole [.int f, .int 9, .int 9999] = .ok (.bl true) := h0
  have g1 : F_law_whole [b, .int 0, .int (f - 1)] = .ok (.bl true) := h1
  have g2 : F_law_whole [w, .int 0, .int 5] = .ok (.bl true) := h2
  exact ⟨fnD_of (Rt.iff (by simp only [ev_C, ev_Var, ev_Bor, ev_Nl, ev_Bin, ev_Tup, ev_L, ev_Fn, ev_Call, ev_nil, ev_cons, ev_If, ev_And, ev_Or, ev_Not, ev_cAnd, ev_cOr, ev_cNot, ev_cB, ev_cTr, ev_toB, ev_IsN, ev_NotN, ev_isN_non, ev_isN_int, ev_isN_str, ev_isN_tup, ev_isN_bl, ev_MulL, ev_MulR, ev_DivC, ev_ModC, ev_Neg, ev_addI, ev_subI, ev_ltI, ev_leI, ev_gtI, ev_geI, ev_eqI, ev_neI, ev_eqS, ev_neS, ev_eqN, ev_neN, ev_eqNI, ev_neNI, ev_eqIN, ev_neIN, ev_eqB, ev_neB, ev_isB, ev_notB, ev_absI, ev_min2, ev_max2, ev_lenT, ev_lenL, ev_lenS, ev_tupL, ev_tupT, ev_intI, ev_intB, ev_ixT, ev_ixL, ev_ixS, at0, at1, at2, at3, atM1, ev_seq, ev_set, ev_own, ev_ret, ev_drop, ev_sIf, ev_for, ev_frz, ev_asg, ev_par2, ev_par3, ev_mVal, ev_mOwn, ev_app, ev_setv, ev_sets0, ev_sets1, ev_stv, ev_bnm, ev_btp, ev_bl0, ev_bl1, ev_R1, ev_R2, ev_iL, ev_iT, ev_itL, ev_itT, ev_forNil, ev_nolI, ev_nolN, ev_nolS, ev_nolB, ev_nolT, ev_nolL0, ev_nolL1, ev_cTrue, ev_wipe, Rz.bind_ok, Rz.bind_exc, Rz.bind_bad, Rz.ofO_some, Rz.ofO_none, onR_ok, onR_exc, onR_bad, onO_some, onO_none, List.getElem?_cons_zero, List.getElem?_cons_succ, ite_true, ite_false, if_true, if_false, reduceIte, Nat.reduceEqDiff, reduceCtorEq, Option.map_some, Option.bind_some, List.cons_append, List.nil_append, Option.map_none, Bool.false_eq_true, Bool.not_true, Bool.not_false, decide_true, decide_false, decide_eq_true_eq, beq_self_eq_true, ev_iSq, ev_itS1, ev_itS2, ev_itS3, ev_itS4, ev_iEn, ev_enS1, ev_enS2, ev_iZp, ev_zpS1, ev_zpS2, ev_Ch, ev_Sl, ev_O0, ev_O1, ev_iO, ev_slT, ev_slL, ev_Rg, ev_Rg3, ev_Ls, ev_lsT, ev_lsL, ev_Isi, ev_Isi2, ev_Rev, ev_revT, ev_Wk, ev_wkN, ev_wkT, ev_tupN, ev_CntT, ev_ctT, ev_IxT, ev_ixT', ev_IxL, ev_ixL', ev_Cnt, ev_ctL, ev_Dic, ev_dg, ev_Sub, ev_Ext, ev_trI, ev_trT, ev_trL, ev_MmD, eq_self, ev_IsE, ev_CallH, ev_unN, ev_unR, ev_TryA, ev_Try, ev_exN, ev_exR, ev_exE, ev_tyN, ev_tyR, ev_tyE, ev_Raise, ev_noxN, ev_noxR, ev_Trg, ev_Cat, it, len4, h0]) (Rt.seq (e1 := _) (by simp only [ev_C, ev_Var, ev_Bor, ev_Nl, ev_Bin, ev_Tup, ev_L, ev_Fn, ev_Call, ev_nil, ev_cons, ev_If, ev_And, ev_Or, ev_Not, ev_cAnd, ev_cOr, ev_cNot, ev_cB, ev_cTr, ev_toB, ev_IsN, ev_NotN, ev_isN_non, ev_isN_int, ev_isN_str, ev_isN_tup, ev_isN_bl, ev_MulL, ev_MulR, ev_DivC, ev_ModC, ev_Neg, ev_addI, ev_subI, ev_ltI, ev_leI, ev_gtI, ev_geI, ev_eqI, ev_neI, ev_eqS, ev_neS, ev_eqN, ev_neN, ev_eqNI, ev_neNI, ev_eqIN, ev_neIN, ev_eqB, ev_neB, ev_isB, ev_notB, ev_absI, ev_min2, ev_max2, ev_lenT, ev_lenL, ev_lenS, ev_tupL, ev_tupT, ev_intI, ev_intB, ev_ixT, ev_ixL, ev_ixS, at0, at1, at2, at3, atM1, ev_seq, ev_set, ev_own, ev_ret, ev_drop, ev_sIf, ev_for, ev_frz, ev_asg, ev_par2, ev_par3, ev_mVal, ev_mOwn, ev_app, ev_setv, ev_sets0, ev_sets1, ev_stv, ev_bnm, ev_btp, ev_bl0, ev_bl1, ev_R1, ev_R2, ev_iL, ev_iT, ev_itL, ev_itT, ev_forNil, ev_nolI, ev_nolN, ev_nolS, ev_nolB, ev_nolT, ev_nolL0, ev_nolL1, ev_cTrue, ev_wipe, Rz.bind_ok, Rz.bind_exc, Rz.bind_bad, Rz.ofO_some, Rz.ofO_none, onR_ok, onR_exc, onR_bad, onO_some, onO_none, List.getElem?_cons_zero, List.getElem?_cons_succ, ite_true, ite_false, if_true, if_false, reduceIte, Nat.reduceEqDiff, reduceCtorEq, Option.map_some, Option.bind_some, List.cons_append, List.nil_append, Option.map_none, Bool.false_eq_true, Bool.not_true, Bool.not_false, decide_true, decide_false, decide_eq_true_eq, beq_self_eq_true, ev_iSq, ev_itS1, ev_itS2, ev_itS3, ev_itS4, ev_iEn, ev_enS1, ev_enS2, ev_iZp, ev_zpS1, ev_zpS2, ev_Ch, ev_Sl, ev_O0, ev_O1, ev_iO, ev_slT, ev_slL, ev_Rg, ev_Rg3, ev_Ls, ev_lsT, ev_lsL, ev_Isi, ev_Isi2, ev_Rev, ev_revT, ev_Wk, ev_wkN, ev_wkT, ev_tupN, ev_CntT, ev_ctT, ev_IxT, ev_ixT', ev_IxL, ev_ixL', ev_Cnt, ev_ctL, ev_Dic, ev_dg, ev_Sub, ev_Ext, ev_trI, ev_trT, ev_trL, ev_MmD, eq_self, ev_IsE, ev_CallH, ev_unN, ev_unR, ev_TryA, ev_Try, ev_exN, ev_exR, ev_exE, ev_tyN, ev_tyR, ev_tyE, ev_Raise, ev_noxN, ev_noxR, ev_Trg, ev_Cat]; rfl) (Rt.iff (by simp only [ev_C, ev_Var, ev_Bor, ev_Nl, ev_Bin, ev_Tup, ev_L, ev_Fn, ev_Call, ev_nil, ev_cons, ev_If, ev_And, ev_Or, ev_Not, ev_cAnd, ev_cOr, ev_cNot, ev_cB, ev_cTr, ev_toB, ev_IsN, ev_NotN, ev_isN_non, ev_isN_int, ev_isN_str, ev_isN_tup, ev_isN_bl, ev_MulL, ev_MulR, ev_DivC, ev_ModC, ev_Neg, ev_addI, ev_subI, ev_ltI, ev_leI, ev_gtI, ev_geI, ev_eqI, ev_neI, ev_eqS, ev_neS, ev_eqN, ev_neN, ev_eqNI, ev_neNI, ev_eqIN, ev_neIN, ev_eqB, ev_neB, ev_isB, ev_notB, ev_absI, ev_min2, ev_max2, ev_lenT, ev_lenL, ev_lenS, ev_tupL, ev_tupT, ev_intI, ev_intB, ev_ixT, ev_ixL, ev_ixS, at0, at1, at2, at3, atM1, ev_seq, ev_set, ev_own, ev_ret, ev_drop, ev_sIf, ev_for, ev_frz, ev_asg, ev_par2, ev_par3, ev_mVal, ev_mOwn, ev_app, ev_setv, ev_sets0, ev_sets1, ev_stv, ev_bnm, ev_btp, ev_bl0, ev_bl1, ev_R1, ev_R2, ev_iL, ev_iT, ev_itL, ev_itT, ev_forNil, ev_nolI, ev_nolN, ev_nolS, ev_nolB, ev_nolT, ev_nolL0, ev_nolL1, ev_cTrue, ev_wipe, Rz.bind_ok, Rz.bind_exc, Rz.bind_bad, Rz.ofO_some, Rz.ofO_none, onR_ok, onR_exc, onR_bad, onO_some, onO_none, List.getElem?_cons_zero, List.getElem?_cons_succ, ite_true, ite_false, if_true, if_false, reduceIte, Nat.reduceEqDiff, reduceCtorEq, Option.map_some, Option.bind_some, List.cons_append, List.nil_append, Option.map_none, Bool.false_eq_true, Bool.not_true, Bool.not_false, decide_true, decide_false, decide_eq_true_eq, beq_self_eq_true, ev_iSq, ev_itS1, ev_itS2, ev_itS3, ev_itS4, ev_iEn, ev_enS1, ev_enS2, ev_iZp, ev_zpS1, ev_zpS2, ev_Ch, ev_Sl, ev_O0, ev_O1, ev_iO, ev_slT, ev_slL, ev_Rg, ev_Rg3, ev_Ls, ev_lsT, ev_lsL, ev_Isi, ev_Isi2, ev_Rev, ev_revT, ev_Wk, ev_wkN, ev_wkT, ev_tupN, ev_CntT, ev_ctT, ev_IxT, ev_ixT', ev_IxL, ev_ixL', ev_Cnt, ev_ctL, ev_Dic, ev_dg, ev_Sub, ev_Ext, ev_trI, ev_trT, ev_trL, ev_MmD, eq_self, ev_IsE, ev_CallH, ev_unN, ev_unR, ev_TryA, ev_Try, ev_exN, ev_exR, ev_exE, ev_tyN, ev_tyR, ev_tyE, ev_Raise, ev_noxN, ev_noxR, ev_Trg, ev_Cat, h1, h2]) (Rt.ift (by simp only [ev_C, ev_Var, ev_Bor, ev_Nl, ev_Bin, ev_Tup, ev_L, ev_Fn, ev_Call, ev_nil, ev_cons, ev_If, ev_And, ev_Or, ev_Not, ev_cAnd, ev_cOr, ev_cNot, ev_cB, ev_cTr, ev_toB, ev_IsN, ev_NotN, ev_isN_non, ev_isN_int, ev_isN_str, ev_isN_tup, ev_isN_bl, ev_MulL, ev_MulR, ev_DivC, ev_ModC, ev_Neg, ev_addI, ev_subI, ev_ltI, ev_leI, ev_gtI, ev_geI, ev_eqI, ev_neI, ev_eqS, ev_neS, ev_eqN, ev_neN, ev_eqNI, ev_neNI, ev_eqIN, ev_neIN, ev_eqB, ev_neB, ev_isB, ev_notB, ev_absI, ev_min2, ev_max2, ev_lenT, ev_lenL, ev_lenS, ev_tupL, ev_tupT, ev_intI, ev_intB, ev_ixT, ev_ixL, ev_ixS, at0, at1, at2, at3, atM1, ev_seq, ev_set, ev_own, ev_ret, ev_drop, ev_sIf, ev_for, ev_frz, ev_asg, ev_par2, ev_par3, ev_mVal, ev_mOwn, ev_app, ev_setv, ev_sets0, ev_sets1, ev_stv, ev_bnm, ev_btp, ev_bl0, ev_bl1, ev_R1, ev_R2, ev_iL, ev_iT, ev_itL, ev_itT, ev_forNil, ev_nolI, ev_nolN, ev_nolS, ev_nolB, ev_nolT, ev_nolL0, ev_nolL1, ev_cTrue, ev_wipe, Rz.bind_ok, Rz.bind_exc, Rz.bind_bad, Rz.ofO_some, Rz.ofO_none, onR_ok, onR_exc, onR_bad, onO_some, onO_none, List.getElem?_cons_zero, List.getElem?_cons_succ, ite_true, ite_false, if_true, if_false, reduceIte, Nat.reduceEqDiff, reduceCtorEq, Option.map_some, Option.bind_some, List.cons_append, List.nil_append, Option.map_none, Bool.false_eq_true, Bool.not_true, Bool.not_false, decide_true, decide_false, decide_eq_true_eq, beq_self_eq_true, ev_iSq, ev_itS1, ev_itS2, ev_itS3, ev_itS4, ev_iEn, ev_enS1, ev_enS2, ev_iZp, ev_zpS1, ev_zpS2, ev_Ch, ev_Sl, ev_O0, ev_O1, ev_iO, ev_slT, ev_slL, ev_Rg, ev_Rg3, ev_Ls, ev_lsT, ev_lsL, ev_Isi, ev_Isi2, ev_Rev, ev_revT, ev_Wk, ev_wkN, ev_wkT, ev_tupN, ev_CntT, ev_ctT, ev_IxT, ev_ixT', ev_IxL, ev_ixL', ev_Cnt, ev_ctL, ev_Dic, ev_dg, ev_Sub, ev_Ext, ev_trI, ev_trT, ev_trL, ev_MmD, eq_self, ev_IsE, ev_CallH, ev_unN, ev_unR, ev_TryA, ev_Try, ev_exN, ev_exR, ev_exE, ev_tyN, ev_tyR, ev_tyE, ev_Raise, ev_noxN, ev_noxR, ev_Trg, ev_Cat, h]) (Rt.ret (by simp only [ev_C, ev_Var, ev_Bor, ev_Nl, ev_Bin, ev_Tup, ev_L, ev_Fn, ev_Call, ev_nil, ev_cons, ev_If, ev_And, ev_Or, ev_Not, ev_cAnd, ev_cOr, ev_cNot, ev_cB, ev_cTr, ev_toB, ev_IsN, ev_NotN, ev_isN_non, ev_isN_int, ev_isN_str, ev_isN_tup, ev_isN_bl, ev_MulL, ev_MulR, ev_DivC, ev_ModC, ev_Neg, ev_addI, ev_subI, ev_ltI, ev_leI, ev_gtI, ev_geI, ev_eqI, ev_neI, ev_eqS, ev_neS, ev_eqN, ev_neN, ev_eqNI, ev_neNI, ev_eqIN, ev_neIN, ev_eqB, ev_neB, ev_isB, ev_notB, ev_absI, ev_min2, ev_max2, ev_lenT, ev_lenL, ev_lenS, ev_tupL, ev_tupT, ev_intI, ev_intB, ev_ixT, ev_ixL, ev_ixS, at0, at1, at2, at3, atM1, ev_seq, ev_set, ev_own, ev_ret, ev_drop, ev_sIf, ev_for, ev_frz, ev_asg, ev_par2, ev_par3, ev_mVal, ev_mOwn, ev_app, ev_setv, ev_sets0, ev_sets1, ev_stv, ev_bnm, ev_btp, ev_bl0, ev_bl1, ev_R1, ev_R2, ev_iL, ev_iT, ev_itL, ev_itT, ev_forNil, ev_nolI, ev_nolN, ev_nolS, ev_nolB, ev_nolT, ev_nolL0, ev_nolL1, ev_cTrue, ev_wipe, Rz.bind_ok, Rz.bind_exc, Rz.bind_bad, Rz.ofO_some, Rz.ofO_none, onR_ok, onR_exc, onR_bad, onO_some, onO_none, List.getElem?_cons_zero, List.getElem?_cons_succ, ite_true, ite_false, if_true, if_false, reduceIte, Nat.reduceEqDiff, reduceCtorEq, Option.map_some, Option.bind_some, List.cons_append, List.nil_append, Option.map_none, Bool.false_eq_true, Bool.not_true, Bool.not_false, decide_true, decide_false, decide_eq_true_eq, beq_self_eq_true, ev_iSq, ev_itS1, ev_itS2, ev_itS3, ev_itS4, ev_iEn, ev_enS1, ev_enS2, ev_iZp, ev_zpS1, ev_zpS2, ev_Ch, ev_Sl, ev_O0, ev_O1, ev_iO, ev_slT, ev_slL, ev_Rg, ev_Rg3, ev_Ls, ev_lsT, ev_lsL, ev_Isi, ev_Isi2, ev_Rev, ev_revT, ev_Wk, ev_wkN, ev_wkT, ev_tupN, ev_CntT, ev_ctT, ev_IxT, ev_ixT', ev_IxL, ev_ixL', ev_Cnt, ev_ctL, ev_Dic, ev_dg, ev_Sub, ev_Ext, ev_trI, ev_trT, ev_trL, ev_MmD, eq_self, ev_IsE, ev_CallH, ev_unN, ev_unR, ev_TryA, ev_Try, ev_exN, ev_exR, ev_exE, ev_tyN, ev_tyR, ev_tyE, ev_Raise, ev_noxN, ev_noxR, ev_Trg, ev_Cat])))))), fnD_of (Rt.iff (by simp only [ev_C, ev_Var, ev_Bor, ev_Nl, ev_Bin, ev_Tup, ev_L, ev_Fn, ev_Call, ev_nil, ev_cons, ev_If, ev_And, ev_Or, ev_Not, ev_cAnd, ev_cOr, ev_cNot, ev_cB, ev_cTr, ev_toB, ev_IsN, ev_NotN, ev_isN_non, ev_isN_int, ev_isN_str, ev_isN_tup, ev_isN_bl, ev_MulL, ev_MulR, ev_DivC, ev_ModC, ev_Neg, ev_addI, ev_subI, ev_ltI, ev_leI, ev_gtI, ev_geI, ev_eqI, ev_neI, ev_eqS, ev_neS, ev_eqN, ev_neN, ev_eqNI, ev_neNI, ev_eqIN, ev_neIN, ev_eqB, ev_neB, ev_isB, ev_notB, ev_absI, ev_min2, ev_max2, ev_lenT, ev_lenL, ev_lenS, ev_tupL, ev_tupT, ev_intI, ev_intB, ev_ixT, ev_ixL, ev_ixS, at0, at1, at2, at3, atM1, ev_seq, ev_set, ev_own, ev_ret, ev_drop, ev_sIf, ev_for, ev_frz, ev_asg, ev_par2, ev_par3, ev_mVal, ev_mOwn, ev_app, ev_setv, ev_sets0, ev_sets1, ev_stv, ev_bnm, ev_btp, ev_bl0, ev_bl1, ev_R1, ev_R2, ev_iL, ev_iT, ev_itL, ev_itT, ev_forNil, ev_nolI, ev_nolN, ev_nolS, ev_nolB, ev_nolT, ev_nolL0, ev_nolL1, ev_cTrue, ev_wipe, Rz.bind_ok, Rz.bind_exc, Rz.bind_bad, Rz.ofO_some, Rz.ofO_none, onR_ok, onR_exc, onR_bad, onO_some, onO_none, List.getElem?_cons_zero, List.getElem?_cons_succ, ite_true, ite_false, if_true, if_false, reduceIte, Nat.reduceEqDiff, reduceCtorEq, Option.map_some, Option.bind_some, List.cons_append, List.nil_append, Option.map_none, Bool.false_eq_true, Bool.not_true, Bool.not_false, decide_true, decide_false, decide_eq_true_eq, beq_self_eq_true, ev_iSq, ev_itS1, ev_itS2, ev_itS3, ev_itS4, ev_iEn, ev_enS1, ev_enS2, ev_iZp, ev_zpS1, ev_zpS2, ev_Ch, ev_Sl, ev_O0, ev_O1, ev_iO, ev_slT, ev_slL, ev_Rg, ev_Rg3, ev_Ls, ev_lsT, ev_lsL, ev_Isi, ev_Isi2, ev_Rev, ev_revT, ev_Wk, ev_wkN, ev_wkT, ev_tupN, ev_CntT, ev_ctT, ev_IxT, ev_ixT', ev_IxL, ev_ixL', ev_Cnt, ev_ctL, ev_Dic, ev_dg, ev_Sub, ev_Ext, ev_trI, ev_trT, ev_trL, ev_MmD, eq_self, ev_IsE, ev_CallH, ev_unN, ev_unR, ev_TryA, ev_Try, ev_exN, ev_exR, ev_exE, ev_tyN, ev_tyR, ev_tyE, ev_Raise, ev_noxN, ev_noxR, ev_Trg, ev_Cat, it, len4, g0]) (Rt.iff (by simp only [ev_C, ev_Var, ev_Bor, ev_Nl, ev_Bin, ev_Tup, ev_L, ev_Fn, ev_Call, ev_nil, ev_cons, ev_If, ev_And, ev_Or, ev_Not, ev_cAnd, ev_cOr, ev_cNot, ev_cB, ev_cTr, ev_toB, ev_IsN, ev_NotN, ev_isN_non, ev_isN_int, ev_isN_str, ev_isN_tup, ev_isN_bl, ev_MulL, ev_MulR, ev_DivC, ev_ModC, ev_Neg, ev_addI, ev_subI, ev_ltI, ev_leI, ev_gtI, ev_geI, ev_eqI, ev_neI, ev_eqS, ev_neS, ev_eqN, ev_neN, ev_eqNI, ev_neNI, ev_eqIN, ev_neIN, ev_eqB, ev_neB, ev_isB, ev_notB, ev_absI, ev_min2, ev_max2, ev_lenT, ev_lenL, ev_lenS, ev_tupL, ev_tupT, ev_intI, ev_intB, ev_ixT, ev_ixL, ev_ixS, at0, at1, at2, at3, atM1, ev_seq, ev_set, ev_own, ev_ret, ev_drop, ev_sIf, ev_for, ev_frz, ev_asg, ev_par2, ev_par3, ev_mVal, ev_mOwn, ev_app, ev_setv, ev_sets0, ev_sets1, ev_stv, ev_bnm, ev_btp, ev_bl0, ev_bl1, ev_R1, ev_R2, ev_iL, ev_iT, ev_itL, ev_itT, ev_forNil, ev_nolI, ev_nolN, ev_nolS, ev_nolB, ev_nolT, ev_nolL0, ev_nolL1, ev_cTrue, ev_wipe, Rz.bind_ok, Rz.bind_exc, Rz.bind_bad, Rz.ofO_some, Rz.ofO_none, onR_ok, onR_exc, onR_bad, onO_some, onO_none, List.getElem?_cons_zero, List.getElem?_cons_succ, ite_true, ite_false, if_true, if_false, reduceIte, Nat.reduceEqDiff, reduceCtorEq, Option.map_some, Option.bind_some, List.cons_append, List.nil_append, Option.map_none, Bool.false_eq_true, Bool.not_true, Bool.not_false, decide_true, decide_false, decide_eq_true_eq, beq_self_eq_true, ev_iSq, ev_itS1, ev_itS2, ev_itS3, ev_itS4, ev_iEn, ev_enS1, ev_enS2, ev_iZp, ev_zpS1, ev_zpS2, ev_Ch, ev_Sl, ev_O0, ev_O1, ev_iO, ev_slT, ev_slL, ev_Rg, ev_Rg3, ev_Ls, ev_lsT, ev_lsL, ev_Isi, ev_Isi2, ev_Rev, ev_revT, ev_Wk, ev_wkN, ev_wkT, ev_tupN, ev_CntT, ev_ctT, ev_IxT, ev_ixT', ev_IxL, ev_ixL', ev_Cnt, ev_ctL, ev_Dic, ev_dg, ev_Sub, ev_Ext, ev_trI, ev_trT, ev_trL, ev_MmD, eq_self, ev_IsE, ev_CallH, ev_unN, ev_unR, ev_TryA, ev_Try, ev_exN, ev_exR, ev_exE, ev_tyN, ev_tyR, ev_tyE, ev_Raise, ev_noxN, ev_noxR, ev_Trg, ev_Cat, g1, g2]) (Rt.set (x := c) (by simp only [ev_C, ev_Var, ev_Bor, ev_Nl, ev_Bin, ev_Tup, ev_L, ev_Fn, ev_Call, ev_nil, ev_cons, ev_If, ev_And, ev_Or, ev_Not, ev_cAnd, ev_cOr, ev_cNot, ev_cB, ev_cTr, ev_toB, ev_IsN, ev_NotN, ev_isN_non, ev_isN_int, ev_isN_str, ev_isN_tup, ev_isN_bl, ev_MulL, ev_MulR, ev_DivC, ev_ModC, ev_Neg, ev_addI, ev_subI, ev_ltI, ev_leI, ev_gtI, ev_geI, ev_eqI, ev_neI, ev_eqS, ev_neS, ev_eqN, ev_neN, ev_eqNI, ev_neNI, ev_eqIN, ev_neIN, ev_eqB, ev_neB, ev_isB, ev_notB, ev_absI, ev_min2, ev_max2, ev_lenT, ev_lenL, ev_lenS, ev_tupL, ev_tupT, ev_intI, ev_intB, ev_ixT, ev_ixL, ev_ixS, at0, at1, at2, at3, atM1, ev_seq, ev_set, ev_own, ev_ret, ev_drop, ev_sIf, ev_for, ev_frz, ev_asg, ev_par2, ev_par3, ev_mVal, ev_mOwn, ev_app, ev_setv, ev_sets0, ev_sets1, ev_stv, ev_bnm, ev_btp, ev_bl0, ev_bl1, ev_R1, ev_R2, ev_iL, ev_iT, ev_itL, ev_itT, ev_forNil, ev_nolI, ev_nolN, ev_nolS, ev_nolB, ev_nolT, ev_nolL0, ev_nolL1, ev_cTrue, ev_wipe, Rz.bind_ok, Rz.bind_exc, Rz.bind_bad, Rz.ofO_some, Rz.ofO_none, onR_ok, onR_exc, onR_bad, onO_some, onO_none, List.getElem?_cons_zero, List.getElem?_cons_succ, ite_true, ite_false, if_true, if_false, reduceIte, Nat.reduceEqDiff, reduceCtorEq, Option.map_some, Option.bind_some, List.cons_append, List.nil_append, Option.map_none, Bool.false_eq_true, Bool.not_true, Bool.not_false, decide_true, decide_false, decide_eq_true_eq, beq_self_eq_true, ev_iSq, ev_itS1, ev_itS2, ev_itS3, ev_itS4, ev_iEn, ev_enS1, ev_enS2, ev_iZp, ev_zpS1, ev_zpS2, ev_Ch, ev_Sl, ev_O0, ev_O1, ev_iO, ev_slT, ev_slL, ev_Rg, ev_Rg3, ev_Ls, ev_lsT, ev_lsL, ev_Isi, ev_Isi2, ev_Rev, ev_revT, ev_Wk, ev_wkN, ev_wkT, ev_tupN, ev_CntT, ev_ctT, ev_IxT, ev_ixT', ev_IxL, ev_ixL', ev_Cnt, ev_ctL, ev_Dic, ev_dg, ev_Sub, ev_Ext, ev_trI, ev_trT, ev_trL, ev_MmD, eq_self, ev_IsE, ev_CallH, ev_unN, ev_unR, ev_TryA, ev_Try, ev_exN, ev_exR, ev_exE, ev_tyN, ev_tyR, ev_tyE, ev_Raise, ev_noxN, ev_noxR, ev_Trg, ev_Cat]) (Rt.ift (by simp only [ev_C, ev_Var, ev_Bor, ev_Nl, ev_Bin, ev_Tup, ev_L, ev_Fn, ev_Call, ev_nil, ev_cons, ev_If, ev_And, ev_Or, ev_Not, ev_cAnd, ev_cOr, ev_cNot, ev_cB, ev_cTr, ev_toB, ev_IsN, ev_NotN, ev_isN_non, ev_isN_int, ev_isN_str, ev_isN_tup, ev_isN_bl, ev_MulL, ev_MulR, ev_DivC, ev_ModC, ev_Neg, ev_addI, ev_subI, ev_ltI, ev_leI, ev_gtI, ev_geI, ev_eqI, ev_neI, ev_eqS, ev_neS, ev_eqN, ev_neN, ev_eqNI, ev_neNI, ev_eqIN, ev_neIN, ev_eqB, ev_neB, ev_isB, ev_notB, ev_absI, ev_min2, ev_max2, ev_lenT, ev_lenL, ev_lenS, ev_tupL, ev_tupT, ev_intI, ev_intB, ev_ixT, ev_ixL, ev_ixS, at0, at1, at2, at3, atM1, ev_seq, ev_set, ev_own, ev_ret, ev_drop, ev_sIf, ev_for, ev_frz, ev_asg, ev_par2, ev_par3, ev_mVal, ev_mOwn, ev_app, ev_setv, ev_sets0, ev_sets1, ev_stv, ev_bnm, ev_btp, ev_bl0, ev_bl1, ev_R1, ev_R2, ev_iL, ev_iT, ev_itL, ev_itT, ev_forNil, ev_nolI, ev_nolN, ev_nolS, ev_nolB, ev_nolT, ev_nolL0, ev_nolL1, ev_cTrue, ev_wipe, Rz.bind_ok, Rz.bind_exc, Rz.bind_bad, Rz.ofO_some, Rz.ofO_none, onR_ok, onR_exc, onR_bad, onO_some, onO_none, List.getElem?_cons_zero, List.getElem?_cons_succ, ite_true, ite_false, if_true, if_false, reduceIte, Nat.reduceEqDiff, reduceCtorEq, Option.map_some, Option.bind_some, List.cons_append, List.nil_append, Option.map_none, Bool.false_eq_true, Bool.not_true, Bool.not_false, decide_true, decide_false, decide_eq_true_eq, beq_self_eq_true, ev_iSq, ev_itS1, ev_itS2, ev_itS3, ev_itS4, ev_iEn, ev_enS1, ev_enS2, ev_iZp, ev_zpS1, ev_zpS2, ev_Ch, ev_Sl, ev_O0, ev_O1, ev_iO, ev_slT, ev_slL, ev_Rg, ev_Rg3, ev_Ls, ev_lsT, ev_lsL, ev_Isi, ev_Isi2, ev_Rev, ev_revT, ev_Wk, ev_wkN, ev_wkT, ev_tupN, ev_CntT, ev_ctT, ev_IxT, ev_ixT', ev_IxL, ev_ixL', ev_Cnt, ev_ctL, ev_Dic, ev_dg, ev_Sub, ev_Ext, ev_trI, ev_trT, ev_trL, ev_MmD, eq_self, ev_IsE, ev_CallH, ev_unN, ev_unR, ev_TryA, ev_Try, ev_exN, ev_exR, ev_exE, ev_tyN, ev_tyR, ev_tyE, ev_Raise, ev_noxN, ev_noxR, ev_Trg, ev_Cat, h]) (Rt.ret (by simp only [ev_C, ev_Var, ev_Bor, ev_Nl, ev_Bin, ev_Tup, ev_L, ev_Fn, ev_Call, ev_nil, ev_cons, ev_If, ev_And, ev_Or, ev_Not, ev_cAnd, ev_cOr, ev_cNot, ev_cB, ev_cTr, ev_toB, ev_IsN, ev_NotN, ev_isN_non, ev_isN_int, ev_isN_str, ev_isN_tup, ev_isN_bl, ev_MulL, ev_MulR, ev_DivC, ev_ModC, ev_Neg, ev_addI, ev_subI, ev_ltI, ev_leI, ev_gtI, ev_geI, ev_eqI, ev_neI, ev_eqS, ev_neS, ev_eqN, ev_neN, ev_eqNI, ev_neNI, ev_eqIN, ev_neIN, ev_eqB, ev_neB, ev_isB, ev_notB, ev_absI, ev_min2, ev_max2, ev_lenT, ev_lenL, ev_lenS, ev_tupL, ev_tupT, ev_intI, ev_intB, ev_ixT, ev_ixL, ev_ixS, at0, at1, at2, at3, atM1, ev_seq, ev_set, ev_own, ev_ret, ev_drop, ev_sIf, ev_for, ev_frz, ev_asg, ev_par2, ev_par3, ev_mVal, ev_mOwn, ev_app, ev_setv, ev_sets0, ev_sets1, ev_stv, ev_bnm, ev_btp, ev_bl0, ev_bl1, ev_R1, ev_R2, ev_iL, ev_iT, ev_itL, ev_itT, ev_forNil, ev_nolI, ev_nolN, ev_nolS, ev_nolB, ev_nolT, ev_nolL0, ev_nolL1, ev_cTrue, ev_wipe, Rz.bind_ok, Rz.bind_exc, Rz.bind_bad, Rz.ofO_some, Rz.ofO_none, onR_ok, onR_exc, onR_bad, onO_some, onO_none, List.getElem?_cons_zero, List.getElem?_cons_succ, ite_true, ite_false, if_true, if_false, reduceIte, Nat.reduceEqDiff, reduceCtorEq, Option.map_some, Option.bind_some, List.cons_append, List.nil_append, Option.map_none, Bool.false_eq_true, Bool.not_true, Bool.not_false, decide_true, decide_false, decide_eq_true_eq, beq_self_eq_true, ev_iSq, ev_itS1, ev_itS2, ev_itS3, ev_itS4, ev_iEn, ev_enS1, ev_enS2, ev_iZp, ev_zpS1, ev_zpS2, ev_Ch, ev_Sl, ev_O0, ev_O1, ev_iO, ev_slT, ev_slL, ev_Rg, ev_Rg3, ev_Ls, ev_lsT, ev_lsL, ev_Isi, ev_Isi2, ev_Rev, ev_revT, ev_Wk, ev_wkN, ev_wkT, ev_tupN, ev_CntT, ev_ctT, ev_IxT, ev_ixT', ev_IxL, ev_ixL', ev_Cnt, ev_ctL, ev_Dic, ev_dg, ev_Sub, ev_Ext, ev_trI, ev_trT, ev_trL, ev_MmD, eq_self, ev_IsE, ev_CallH, ev_unN, ev_unR, ev_TryA, ev_Try, ev_exN, ev_exR, ev_exE, ev_tyN, ev_tyR, ev_tyE, ev_Raise, ev_noxN, ev_noxR, ev_Trg, ev_Cat]))))))⟩
theorem bf_3 {ps : List D} (h : ¬ (1 ≤ ps.length ∧ ps.length ≤ 6)) : BothF (.tup [.int f, b, .tup ps, w]) false := by
  have g0 : F_law_whole [.int f, .int 9, .int 9999] = .ok (.bl true) := h0
  have g1 : F_law_whole [b, .int 0, .int (f - 1)] = .ok (.bl true) := h1
  have g2 : F_law_whole [w, .int 0, .int 5] = .ok (.bl true) := h2
  refine ⟨fnD_of (Rt.iff (by simp only [ev_C, ev_Var, ev_Bor, ev_Nl, ev_Bin, ev_Tup, ev_L, ev_Fn, ev_Call, ev_nil, ev_cons, ev_If, ev_And, ev_Or, ev_Not, ev_cAnd, ev_cOr, ev_cNot, ev_cB, ev_cTr, ev_toB, ev_IsN, ev_NotN, ev_isN_non, ev_isN_int, ev_isN_str, ev_isN_tup, ev_isN_bl, ev_MulL, ev_MulR, ev_DivC, ev_ModC, ev_Neg, ev_addI, ev_subI, ev_ltI, ev_leI, ev_gtI, ev_geI, ev_eqI, ev_neI, ev_eqS, ev_neS, ev_eqN, ev_neN, ev_eqNI, ev_neNI, ev_eqIN, ev_neIN, ev_eqB, ev_neB, ev_isB, ev_notB, ev_absI, ev_min2, ev_max2, ev_lenT, ev_lenL, ev_lenS, ev_tupL, ev_tupT, ev_intI, ev_intB, ev_ixT, ev_ixL, ev_ixS, at0, at1, at2, at3, atM1, ev_seq, ev_set, ev_own, ev_ret, ev_drop, ev_sIf, ev_for, ev_frz, ev_asg, ev_par2, ev_par3, ev_mVal, ev_mOwn, ev_app, ev_setv, ev_sets0, ev_sets1, ev_stv, ev_bnm, ev_btp, ev_bl0, ev_bl1, ev_R1, ev_R2, ev_iL, ev_iT, ev_itL, ev_itT, ev_forNil, ev_nolI, ev_nolN, ev_nolS, ev_nolB, ev_nolT, ev_nolL0, ev_nolL1, ev_cTrue, ev_wipe, Rz.bind_ok, Rz.bind_exc, Rz.bind_bad, Rz.ofO_some, Rz.ofO_none, onR_ok, onR_exc, onR_bad, onO_some, onO_none, List.getElem?_cons_zero, List.getElem?_cons_succ, ite_true, ite_false, if_true, if_false, reduceIte, Nat.reduceEqDiff, reduceCtorEq, Option.map_some, Option.bind_some, List.cons_append, List.nil_append, Option.map_none, Bool.false_eq_true, Bool.not_true, Bool.not_false, decide_true, decide_false, decide_eq_true_eq, beq_self_eq_true, ev_iSq, ev_itS1, ev_itS2, ev_itS3, ev_itS4, ev_iEn, ev_enS1, ev_enS2, ev_iZp, ev_zpS1, ev_zpS2, ev_Ch, ev_Sl, ev_O0, ev_O1, ev_iO, ev_slT, ev_slL, ev_Rg, ev_Rg3, ev_Ls, ev_lsT, ev_lsL, ev_Isi, ev_Isi2, ev_Rev, ev_revT, ev_Wk, ev_wkN, ev_wkT, ev_tupN, ev_CntT, ev_ctT, ev_IxT, ev_ixT', ev_IxL, ev_ixL', ev_Cnt, ev_ctL, ev_Dic, ev_dg, ev_Sub, ev_Ext, ev_trI, ev_trT, ev_trL, ev_MmD, eq_self, ev_IsE, ev_CallH, ev_unN, ev_unR, ev_TryA, ev_Try, ev_exN, ev_exR, ev_exE, ev_tyN, ev_tyR, ev_tyE, ev_Raise, ev_noxN, ev_noxR, ev_Trg, ev_Cat, it, len4, h0]) (Rt.seq (e1 := _) (by simp only [ev_C, ev_Var, ev_Bor, ev_Nl, ev_Bin, ev_Tup, ev_L, ev_Fn, ev_Call, ev_nil, ev_cons, ev_If, ev_And, ev_Or, ev_Not, ev_cAnd, ev_cOr, ev_cNot, ev_cB, ev_cTr, ev_toB, ev_IsN, ev_NotN, ev_isN_non, ev_isN_int, ev_isN_str, ev_isN_tup, ev_isN_bl, ev_MulL, ev_MulR, ev_DivC, ev_ModC, ev_Neg, ev_addI, ev_subI, ev_ltI, ev_leI, ev_gtI, ev_geI, ev_eqI, ev_neI, ev_eqS, ev_neS, ev_eqN, ev_neN, ev_eqNI, ev_neNI, ev_eqIN, ev_neIN, ev_eqB, ev_neB, ev_isB, ev_notB, ev_absI, ev_min2, ev_max2, ev_lenT, ev_lenL, ev_lenS, ev_tupL, ev_tupT, ev_intI, ev_intB, ev_ixT, ev_ixL, ev_ixS, at0, at1, at2, at3, atM1, ev_seq, ev_set, ev_own, ev_ret, ev_drop, ev_sIf, ev_for, ev_frz, ev_asg, ev_par2, ev_par3, ev_mVal, ev_mOwn, ev_app, ev_setv, ev_sets0, ev_sets1, ev_stv, ev_bnm, ev_btp, ev_bl0, ev_bl1, ev_R1, ev_R2, ev_iL, ev_iT, ev_itL, ev_itT, ev_forNil, ev_nolI, ev_nolN, ev_nolS, ev_nolB, ev_nolT, ev_nolL0, ev_nolL1, ev_cTrue, ev_wipe, Rz.bind_ok, Rz.bind_exc, Rz.bind_bad, Rz.ofO_some, Rz.ofO_none, onR_ok, onR_exc, onR_bad, onO_some, onO_none, List.getElem?_cons_zero, List.getElem?_cons_succ, ite_true, ite_false, if_true, if_false, reduceIte, Nat.reduceEqDiff, reduceCtorEq, Option.map_some, Option.bind_some, List.cons_append, List.nil_append, Option.map_none, Bool.false_eq_true, Bool.not_true, Bool.not_false, decide_true, decide_false, decide_eq_true_eq, beq_self_eq_true, ev_iSq, ev_itS1, ev_itS2, ev_itS3, ev_itS4, ev_iEn, ev_enS1, ev_enS2, ev_iZp, ev_zpS1, ev_zpS2, ev_Ch, ev_Sl, ev_O0, ev_O1, ev_iO, ev_slT, ev_slL, ev_Rg, ev_Rg3, ev_Ls, ev_lsT, ev_lsL, ev_Isi, ev_Isi2, ev_Rev, ev_revT, ev_Wk, ev_wkN, ev_wkT, ev_tupN, ev_CntT, ev_ctT, ev_IxT, ev_ixT', ev_IxL, ev_ixL', ev_Cnt, ev_ctL, ev_Dic, ev_dg, ev_Sub, ev_Ext, ev_trI, ev_trT, ev_trL, ev_MmD, eq_self, ev_IsE, ev_CallH, ev_unN, ev_unR, ev_TryA, ev_Try, ev_exN, ev_exR, ev_exE, ev_tyN, ev_tyR, ev_tyE, ev_Raise, ev_noxN, ev_noxR, ev_Trg, ev_Cat]; rfl) (Rt.iff (by simp only [ev_C, ev_Var, ev_Bor, ev_Nl, ev_Bin, ev_Tup, ev_L, ev_Fn, ev_Call, ev_nil, ev_cons, ev_If, ev_And, ev_Or, ev_Not, ev_cAnd, ev_cOr, ev_cNot, ev_cB, ev_cTr, ev_toB, ev_IsN, ev_NotN, ev_isN_non, ev_isN_int, ev_isN_str, ev_isN_tup, ev_isN_bl, ev_MulL, ev_MulR, ev_DivC, ev_ModC, ev_Neg, ev_addI, ev_subI, ev_ltI, ev_leI, ev_gtI, ev_geI, ev_eqI, ev_neI, ev_eqS, ev_neS, ev_eqN, ev_neN, ev_eqNI, ev_neNI, ev_eqIN, ev_neIN, ev_eqB, ev_neB, ev_isB, ev_notB, ev_absI, ev_min2, ev_max2, ev_lenT, ev_lenL, ev_lenS, ev_tupL, ev_tupT, ev_intI, ev_intB, ev_ixT, ev_ixL, ev_ixS, at0, at1, at2, at3, atM1, ev_seq, ev_set, ev_own, ev_ret, ev_drop, ev_sIf, ev_for, ev_frz, ev_asg, ev_par2, ev_par3, ev_mVal, ev_mOwn, ev_app, ev_setv, ev_sets0, ev_sets1, ev_stv, ev_bnm, ev_btp, ev_bl0, ev_bl1, ev_R1, ev_R2, ev_iL, ev_iT, ev_itL, ev_itT, ev_forNil, ev_nolI, ev_nolN, ev_nolS, ev_nolB, ev_nolT, ev_nolL0, ev_nolL1, ev_cTrue, ev_wipe, Rz.bind_ok, Rz.bind_exc, Rz.bind_bad, Rz.ofO_some, Rz.ofO_none, onR_ok, onR_exc, onR_bad, onO_some, onO_none, List.getElem?_cons_zero, List.getElem?_cons_succ, ite_true, ite_false, if_true, if_false, reduceIte, Nat.reduceEqDiff, reduceCtorEq, Option.map_some, Option.bind_some, List.cons_append, List.nil_append, Option.map_none, Bool.false_eq_true, Bool.not_true, Bool.not_false, decide_true, decide_false, decide_eq_true_eq, beq_self_eq_true, ev_iSq, ev_itS1, ev_itS2, ev_itS3, ev_itS4, ev_iEn, ev_enS1, ev_enS2, ev_iZp, ev_zpS1, ev_zpS2, ev_Ch, ev_Sl, ev_O0, ev_O1, ev_iO, ev_slT, ev_slL, ev_Rg, ev_Rg3, ev_Ls, ev_lsT, ev_lsL, ev_Isi, ev_Isi2, ev_Rev, ev_revT, ev_Wk, ev_wkN, ev_wkT, ev_tupN, ev_CntT, ev_ctT, ev_IxT, ev_ixT', ev_IxL, ev_ixL', ev_Cnt, ev_ctL, ev_Dic, ev_dg, ev_Sub, ev_Ext, ev_trI, ev_trT, ev_trL, ev_MmD, eq_self, ev_IsE, ev_CallH, ev_unN, ev_unR, ev_TryA, ev_Try, ev_exN, ev_exR, ev_exE, ev_tyN, ev_tyR, ev_tyE, ev_Raise, ev_noxN, ev_noxR, ev_Trg, ev_Cat, h1, h2]) (Rt.ift ?_ (Rt.ret (by simp only [ev_C, ev_Var, ev_Bor, ev_Nl, ev_Bin, ev_Tup, ev_L, ev_Fn, ev_Call, ev_nil, ev_cons, ev_If, ev_And, ev_Or, ev_Not, ev_cAnd, ev_cOr, ev_cNot, ev_cB, ev_cTr, ev_toB, ev_IsN, ev_NotN, ev_isN_non, ev_isN_int, ev_isN_str, ev_isN_tup, ev_isN_bl, ev_MulL, ev_MulR, ev_DivC, ev_ModC, ev_Neg, ev_addI, ev_subI, ev_ltI, ev_leI, ev_gtI, ev_geI, ev_eqI, ev_neI, ev_eqS, ev_neS, ev_eqN, ev_neN, ev_eqNI, ev_neNI, ev_eqIN, ev_neIN, ev_eqB, ev_neB, ev_isB, ev_notB, ev_absI, ev_min2, ev_max2, ev_lenT, ev_lenL, ev_lenS, ev_tupL, ev_tupT, ev_intI, ev_intB, ev_ixT, ev_ixL, ev_ixS, at0, at1, at2, at3, atM1, ev_seq, ev_set, ev_own, ev_ret, ev_drop, ev_sIf, ev_for, ev_frz, ev_asg, ev_par2, ev_par3, ev_mVal, ev_mOwn, ev_app, ev_setv, ev_sets0, ev_sets1, ev_stv, ev_bnm, ev_btp, ev_bl0, ev_bl1, ev_R1, ev_R2, ev_iL, ev_iT, ev_itL, ev_itT, ev_forNil, ev_nolI, ev_nolN, ev_nolS, ev_nolB, ev_nolT, ev_nolL0, ev_nolL1, ev_cTrue, ev_wipe, Rz.bind_ok, Rz.bind_exc, Rz.bind_bad, Rz.ofO_some, Rz.ofO_none, onR_ok, onR_exc, onR_bad, onO_some, onO_none, List.getElem?_cons_zero, List.getElem?_cons_succ, ite_true, ite_false, if_true, if_false, reduceIte, Nat.reduceEqDiff, reduceCtorEq, Option.map_some, Option.bind_some, List.cons_append, List.nil_append, Option.map_none, Bool.false_eq_true, Bool.not_true, Bool.not_false, decide_true, decide_false, decide_eq_true_eq, beq_self_eq_true, ev_iSq, ev_itS1, ev_itS2, ev_itS3, ev_itS4, ev_iEn, ev_enS1, ev_enS2, ev_iZp, ev_zpS1, ev_zpS2, ev_Ch, ev_Sl, ev_O0, ev_O1, ev_iO, ev_slT, ev_slL, ev_Rg, ev_Rg3, ev_Ls, ev_lsT, ev_lsL, ev_Isi, ev_Isi2, ev_Rev, ev_revT, ev_Wk, ev_wkN, ev_wkT, ev_tupN, ev_CntT, ev_ctT, ev_IxT, ev_ixT', ev_IxL, ev_ixL', ev_Cnt, ev_ctL, ev_Dic, ev_dg, ev_Sub, ev_Ext, ev_trI, ev_trT, ev_trL, ev_MmD, eq_self, ev_IsE, ev_CallH, ev_unN, ev_unR, ev_TryA, ev_Try, ev_exN, ev_exR, ev_exE, ev_tyN, ev_tyR, ev_tyE, ev_Raise, ev_noxN, ev_noxR, ev_Trg, ev_Cat])))))), fnD_of (Rt.iff (by simp only [ev_C, ev_Var, ev_Bor, ev_Nl, ev_Bin, ev_Tup, ev_L, ev_Fn, ev_Call, ev_nil, ev_cons, ev_If, ev_And, ev_Or, ev_Not, ev_cAnd, ev_cOr, ev_cNot, ev_cB, ev_cTr, ev_toB, ev_IsN, ev_NotN, ev_isN_non, ev_isN_int, ev_isN_str, ev_isN_tup, ev_isN_bl, ev_MulL, ev_MulR, ev_DivC, ev_ModC, ev_Neg, ev_addI, ev_subI, ev_ltI, ev_leI, ev_gtI, ev_geI, ev_eqI, ev_neI, ev_eqS, ev_neS, ev_eqN, ev_neN, ev_eqNI, ev_neNI, ev_eqIN, ev_neIN, ev_eqB, ev_neB, ev_isB, ev_notB, ev_absI, ev_min2, ev_max2, ev_lenT, ev_lenL, ev_lenS, ev_tupL, ev_tupT, ev_intI, ev_intB, ev_ixT, ev_ixL, ev_ixS, at0, at1, at2, at3, atM1, ev_seq, ev_set, ev_own, ev_ret, ev_drop, ev_sIf, ev_for, ev_frz, ev_asg, ev_par2, ev_par3, ev_mVal, ev_mOwn, ev_app, ev_setv, ev_sets0, ev_sets1, ev_stv, ev_bnm, ev_btp, ev_bl0, ev_bl1, ev_R1, ev_R2, ev_iL, ev_iT, ev_itL, ev_itT, ev_forNil, ev_nolI, ev_nolN, ev_nolS, ev_nolB, ev_nolT, ev_nolL0, ev_nolL1, ev_cTrue, ev_wipe, Rz.bind_ok, Rz.bind_exc, Rz.bind_bad, Rz.ofO_some, Rz.ofO_none, onR_ok, onR_exc, onR_bad, onO_some, onO_none, List.getElem?_cons_zero, List.getElem?_cons_succ, ite_true, ite_false, if_true, if_false, reduceIte, Nat.reduceEqDiff, reduceCtorEq, Option.map_some, Option.bind_some, List.cons_append, List.nil_append, Option.map_none, Bool.false_eq_true, Bool.not_true, Bool.not_false, decide_true, decide_false, decide_eq_true_eq, beq_self_eq_true, ev_iSq, ev_itS1, ev_itS2, ev_itS3, ev_itS4, ev_iEn, ev_enS1, ev_enS2, ev_iZp, ev_zpS1, ev_zpS2, ev_Ch, ev_Sl, ev_O0, ev_O1, ev_iO, ev_slT, ev_slL, ev_Rg, ev_Rg3, ev_Ls, ev_lsT, ev_lsL, ev_Isi, ev_Isi2, ev_Rev, ev_revT, ev_Wk, ev_wkN, ev_wkT, ev_tupN, ev_CntT, ev_ctT, ev_IxT, ev_ixT', ev_IxL, ev_ixL', ev_Cnt, ev_ctL, ev_Dic, ev_dg, ev_Sub, ev_Ext, ev_trI, ev_trT, ev_trL, ev_MmD, eq_self, ev_IsE, ev_CallH, ev_unN, ev_unR, ev_TryA, ev_Try, ev_exN, ev_exR, ev_exE, ev_tyN, ev_tyR, ev_tyE, ev_Raise, ev_noxN, ev_noxR, ev_Trg, ev_Cat, it, len4, g0]) (Rt.iff (by simp only [ev_C, ev_Var, ev_Bor, ev_Nl, ev_Bin, ev_Tup, ev_L, ev_Fn, ev_Call, ev_nil, ev_cons, ev_If, ev_And, ev_Or, ev_Not, ev_cAnd, ev_cOr, ev_cNot, ev_cB, ev_cTr, ev_toB, ev_IsN, ev_NotN, ev_isN_non, ev_isN_int, ev_isN_str, ev_isN_tup, ev_isN_bl, ev_MulL, ev_MulR, ev_DivC, ev_ModC, ev_Neg, ev_addI, ev_subI, ev_ltI, ev_leI, ev_gtI, ev_geI, ev_eqI, ev_neI, ev_eqS, ev_neS, ev_eqN, ev_neN, ev_eqNI, ev_neNI, ev_eqIN, ev_neIN, ev_eqB, ev_neB, ev_isB, ev_notB, ev_absI, ev_min2, ev_max2, ev_lenT, ev_lenL, ev_lenS, ev_tupL, ev_tupT, ev_intI, ev_intB, ev_ixT, ev_ixL, ev_ixS, at0, at1, at2, at3, atM1, ev_seq, ev_set, ev_own, ev_ret, ev_drop, ev_sIf, ev_for, ev_frz, ev_asg, ev_par2, ev_par3, ev_mVal, ev_mOwn, ev_app, ev_setv, ev_sets0, ev_sets1, ev_stv, ev_bnm, ev_btp, ev_bl0, ev_bl1, ev_R1, ev_R2, ev_iL, ev_iT, ev_itL, ev_itT, ev_forNil, ev_nolI, ev_nolN, ev_nolS, ev_nolB, ev_nolT, ev_nolL0, ev_nolL1, ev_cTrue, ev_wipe, Rz.bind_ok, Rz.bind_exc, Rz.bind_bad, Rz.ofO_some, Rz.ofO_none, onR_ok, onR_exc, onR_bad, onO_some, onO_none, List.getElem?_cons_zero, List.getElem?_cons_succ, ite_true, ite_false, if_true, if_false, reduceIte, Nat.reduceEqDiff, reduceCtorEq, Option.map_some, Option.bind_some, List.cons_append, List.nil_append, Option.map_none, Bool.false_eq_true, Bool.not_true, Bool.not_false, decide_true, decide_false, decide_eq_true_eq, beq_self_eq_true, ev_iSq, ev_itS1, ev_itS2, ev_itS3, ev_itS4, ev_iEn, ev_enS1, ev_enS2, ev_iZp, ev_zpS1, ev_zpS2, ev_Ch, ev_Sl, ev_O0, ev_O1, ev_iO, ev_slT, ev_slL, ev_Rg, ev_Rg3, ev_Ls, ev_lsT, ev_lsL, ev_Isi, ev_Isi2, ev_Rev, ev_revT, ev_Wk, ev_wkN, ev_wkT, ev_tupN, ev_CntT, ev_ctT, ev_IxT, ev_ixT', ev_IxL, ev_ixL', ev_Cnt, ev_ctL, ev_Dic, ev_dg, ev_Sub, ev_Ext, ev_trI, ev_trT, ev_trL, ev_MmD, eq_self, ev_IsE, ev_CallH, ev_unN, ev_unR, ev_TryA, ev_Try, ev_exN, ev_exR, ev_exE, ev_tyN, ev_tyR, ev_tyE, ev_Raise, ev_noxN, ev_noxR, ev_Trg, ev_Cat, g1, g2]) (Rt.set (x := .tup ps) (by simp only [ev_C, ev_Var, ev_Bor, ev_Nl, ev_Bin, ev_Tup, ev_L, ev_Fn, ev_Call, ev_nil, ev_cons, ev_If, ev_And, ev_Or, ev_Not, ev_cAnd, ev_cOr, ev_cNot, ev_cB, ev_cTr, ev_toB, ev_IsN, ev_NotN, ev_isN_non, ev_isN_int, ev_isN_str, ev_isN_tup, ev_isN_bl, ev_MulL, ev_MulR, ev_DivC, ev_ModC, ev_Neg, ev_addI, ev_subI, ev_ltI, ev_leI, ev_gtI, ev_geI, ev_eqI, ev_neI, ev_eqS, ev_neS, ev_eqN, ev_neN, ev_eqNI, ev_neNI, ev_eqIN, ev_neIN, ev_eqB, ev_neB, ev_isB, ev_notB, ev_absI, ev_min2, ev_max2, ev_lenT, ev_lenL, ev_lenS, ev_tupL, ev_tupT, ev_intI, ev_intB, ev_ixT, ev_ixL, ev_ixS, at0, at1, at2, at3, atM1, ev_seq, ev_set, ev_own, ev_ret, ev_drop, ev_sIf, ev_for, ev_frz, ev_asg, ev_par2, ev_par3, ev_mVal, ev_mOwn, ev_app, ev_setv, ev_sets0, ev_sets1, ev_stv, ev_bnm, ev_btp, ev_bl0, ev_bl1, ev_R1, ev_R2, ev_iL, ev_iT, ev_itL, ev_itT, ev_forNil, ev_nolI, ev_nolN, ev_nolS, ev_nolB, ev_nolT, ev_nolL0, ev_nolL1, ev_cTrue, ev_wipe, Rz.bind_ok, Rz.bind_exc, Rz.bind_bad, Rz.ofO_some, Rz.ofO_none, onR_ok, onR_exc, onR_bad, onO_some, onO_none, List.getElem?_cons_zero, List.getElem?_cons_succ, ite_true, ite_false, if_true, if_false, reduceIte, Nat.reduceEqDiff, reduceCtorEq, Option.map_some, Option.bind_some, List.cons_append, List.nil_append, Option.map_none, Bool.false_eq_true, Bool.not_true, Bool.not_false, decide_true, decide_false, decide_eq_true_eq, beq_self_eq_true, ev_iSq, ev_itS1, ev_itS2, ev_itS3, ev_itS4, ev_iEn, ev_enS1, ev_enS2, ev_iZp, ev_zpS1, ev_zpS2, ev_Ch, ev_Sl, ev_O0, ev_O1, ev_iO, ev_slT, ev_slL, ev_Rg, ev_Rg3, ev_Ls, ev_lsT, ev_lsL, ev_Isi, ev_Isi2, ev_Rev, ev_revT, ev_Wk, ev_wkN, ev_wkT, ev_tupN, ev_CntT, ev_ctT, ev_IxT, ev_ixT', ev_IxL, ev_ixL', ev_Cnt, ev_ctL, ev_Dic, ev_dg, ev_Sub, ev_Ext, ev_trI, ev_trT, ev_trL, ev_MmD, eq_self, ev_IsE, ev_CallH, ev_unN, ev_unR, ev_TryA, ev_Try, ev_exN, ev_exR, ev_exE, ev_tyN, ev_tyR, ev_tyE, ev_Raise, ev_noxN, ev_noxR, ev_Trg, ev_Cat]) (Rt.ift ?_ (Rt.ret (by simp only [ev_C, ev_Var, ev_Bor, ev_Nl, ev_Bin, ev_Tup, ev_L, ev_Fn, ev_Call, ev_nil, ev_cons, ev_If, ev_And, ev_Or, ev_Not, ev_cAnd, ev_cOr, ev_cNot, ev_cB, ev_cTr, ev_toB, ev_IsN, ev_NotN, ev_isN_non, ev_isN_int, ev_isN_str, ev_isN_tup, ev_isN_bl, ev_MulL, ev_MulR, ev_DivC, ev_ModC, ev_Neg, ev_addI, ev_subI, ev_ltI, ev_leI, ev_gtI, ev_geI, ev_eqI, ev_neI, ev_eqS, ev_neS, ev_eqN, ev_neN, ev_eqNI, ev_neNI, ev_eqIN, ev_neIN, ev_eqB, ev_neB, ev_isB, ev_notB, ev_absI, ev_min2, ev_max2, ev_lenT, ev_lenL, ev_lenS, ev_tupL, ev_tupT, ev_intI, ev_intB, ev_ixT, ev_ixL, ev_ixS, at0, at1, at2, at3, atM1, ev_seq, ev_set, ev_own, ev_ret, ev_drop, ev_sIf, ev_for, ev_frz, ev_asg, ev_par2, ev_par3, ev_mVal, ev_mOwn, ev_app, ev_setv, ev_sets0, ev_sets1, ev_stv, ev_bnm, ev_btp, ev_bl0, ev_bl1, ev_R1, ev_R2, ev_iL, ev_iT, ev_itL, ev_itT, ev_forNil, ev_nolI, ev_nolN, ev_nolS, ev_nolB, ev_nolT, ev_nolL0, ev_nolL1, ev_cTrue, ev_wipe, Rz.bind_ok, Rz.bind_exc, Rz.bind_bad, Rz.ofO_some, Rz.ofO_none, onR_ok, onR_exc, onR_bad, onO_some, onO_none, List.getElem?_cons_zero, List.getElem?_cons_succ, ite_true, ite_false, if_true, if_false, reduceIte, Nat.reduceEqDiff, reduceCtorEq, Option.map_some, Option.bind_some, List.cons_append, List.nil_append, Option.map_none, Bool.false_eq_true, Bool.not_true, Bool.not_false, decide_true, decide_false, decide_eq_true_eq, beq_self_eq_true, ev_iSq, ev_itS1, ev_itS2, ev_itS3, ev_itS4, ev_iEn, ev_enS1, ev_enS2, ev_iZp, ev_zpS1, ev_zpS2, ev_Ch, ev_Sl, ev_O0, ev_O1, ev_iO, ev_slT, ev_slL, ev_Rg, ev_Rg3, ev_Ls, ev_lsT, ev_lsL, ev_Isi, ev_Isi2, ev_Rev, ev_revT, ev_Wk, ev_wkN, ev_wkT, ev_tupN, ev_CntT, ev_ctT, ev_IxT, ev_ixT', ev_IxL, ev_ixL', ev_Cnt, ev_ctL, ev_Dic, ev_dg, ev_Sub, ev_Ext, ev_trI, ev_trT, ev_trL, ev_MmD, eq_self, ev_IsE, ev_CallH, ev_unN, ev_unR, ev_TryA, ev_Try, ev_exN, ev_exR, ev_exE, ev_tyN, ev_tyR, ev_tyE, ev_Raise, ev_noxN, ev_noxR, ev_Trg, ev_Cat]))))))⟩
  · by_cases q : (1 : Int) ≤ ps.length
    · have q2 : ¬ (ps.length : Int) ≤ 6 := by omega
      simp only [ev_C, ev_Var, ev_Bor, ev_Nl, ev_Bin, ev_Tup, ev_L, ev_Fn, ev_Call, ev_nil, ev_cons, ev_If, ev_And, ev_Or, ev_Not, ev_cAnd, ev_cOr, ev_cNot, ev_cB, ev_cTr, ev_toB, ev_IsN, ev_NotN, ev_isN_non, ev_isN_int, ev_isN_str, ev_isN_tup, ev_isN_bl, ev_MulL, ev_MulR, ev_DivC, ev_ModC, ev_Neg, ev_addI, ev_subI, ev_ltI, ev_leI, ev_gtI, ev_geI, ev_eqI, ev_neI, ev_eqS, ev_neS, ev_eqN, ev_neN, ev_eqNI, ev_neNI, ev_eqIN, ev_neIN, ev_eqB, ev_neB, ev_isB, ev_notB, ev_absI, ev_min2, ev_max2, ev_lenT, ev_lenL, ev_lenS, ev_tupL, ev_tupT, ev_intI, ev_intB, ev_ixT, ev_ixL, ev_ixS, at0, at1, at2, at3, atM1, ev_seq, ev_set, ev_own, ev_ret, ev_drop, ev_sIf, ev_for, ev_frz, ev_asg, ev_par2, ev_par3, ev_mVal, ev_mOwn, ev_app, ev_setv, ev_sets0, ev_sets1, ev_stv, ev_bnm, ev_btp, ev_bl0, ev_bl1, ev_R1, ev_R2, ev_iL, ev_iT, ev_itL, ev_itT, ev_forNil, ev_nolI, ev_nolN, ev_nolS, ev_nolB, ev_nolT, ev_nolL0, ev_nolL1, ev_cTrue, ev_wipe, Rz.bind_ok, Rz.bind_exc, Rz.bind_bad, Rz.ofO_some, Rz.ofO_none, onR_ok, onR_exc, onR_bad, onO_some, onO_none, List.getElem?_cons_zero, List.getElem?_cons_succ, ite_true, ite_false, if_true, if_false, reduceIte, Nat.reduceEqDiff, reduceCtorEq, Option.map_some, Option.bind_some, List.cons_append, List.nil_append, Option.map_none, Bool.false_eq_true, Bool.not_true, Bool.not_false, decide_true, decide_false, decide_eq_true_eq, beq_self_eq_true, ev_iSq, ev_itS1, ev_itS2, ev_itS3, ev_itS4, ev_iEn, ev_enS1, ev_enS2, ev_iZp, ev_zpS1, ev_zpS2, ev_Ch, ev_Sl, ev_O0, ev_O1, ev_iO, ev_slT, ev_slL, ev_Rg, ev_Rg3, ev_Ls, ev_lsT, ev_lsL, ev_Isi, ev_Isi2, ev_Rev, ev_revT, ev_Wk, ev_wkN, ev_wkT, ev_tupN, ev_CntT, ev_ctT, ev_IxT, ev_ixT', ev_IxL, ev_ixL', ev_Cnt, ev_ctL, ev_Dic, ev_dg, ev_Sub, ev_Ext, ev_trI, ev_trT, ev_trL, ev_MmD, eq_self, ev_IsE, ev_CallH, ev_unN, ev_unR, ev_TryA, ev_Try, ev_exN, ev_exR, ev_exE, ev_tyN, ev_tyR, ev_tyE, ev_Raise, ev_noxN, ev_noxR, ev_Trg, ev_Cat, it, q, q2]
    · simp only [ev_C, ev_Var, ev_Bor, ev_Nl, ev_Bin, ev_Tup, ev_L, ev_Fn, ev_Call, ev_nil, ev_cons, ev_If, ev_And, ev_Or, ev_Not, ev_cAnd, ev_cOr, ev_cNot, ev_cB, ev_cTr, ev_toB, ev_IsN, ev_NotN, ev_isN_non, ev_isN_int, ev_isN_str, ev_isN_tup, ev_isN_bl, ev_MulL, ev_MulR, ev_DivC, ev_ModC, ev_Neg, ev_addI, ev_subI, ev_ltI, ev_leI, ev_gtI, ev_geI, ev_eqI, ev_neI, ev_eqS, ev_neS, ev_eqN, ev_neN, ev_eqNI, ev_neNI, ev_eqIN, ev_neIN, ev_eqB, ev_neB, ev_isB, ev_notB, ev_absI, ev_min2, ev_max2, ev_lenT, ev_lenL, ev_lenS, ev_tupL, ev_tupT, ev_intI, ev_intB, ev_ixT, ev_ixL, ev_ixS, at0, at1, at2, at3, atM1, ev_seq, ev_set, ev_own, ev_ret, ev_drop, ev_sIf, ev_for, ev_frz, ev_asg, ev_par2, ev_par3, ev_mVal, ev_mOwn, ev_app, ev_setv, ev_sets0, ev_sets1, ev_stv, ev_bnm, ev_btp, ev_bl0, ev_bl1, ev_R1, ev_R2, ev_iL, ev_iT, ev_itL, ev_itT, ev_forNil, ev_nolI, ev_nolN, ev_nolS, ev_nolB, ev_nolT, ev_nolL0, ev_nolL1, ev_cTrue, ev_wipe, Rz.bind_ok, Rz.bind_exc, Rz.bind_bad, Rz.ofO_some, Rz.ofO_none, onR_ok, onR_exc, onR_bad, onO_some, onO_none, List.getElem?_cons_zero, List.getElem?_cons_succ, ite_true, ite_false, if_true, if_false, reduceIte, Nat.reduceEqDiff, reduceCtorEq, Option.map_some, Option.bind_some, List.cons_append, List.nil_append, Option.map_none, Bool.false_eq_true, Bool.not_true, Bool.not_false, decide_true, decide_false, decide_eq_true_eq, beq_self_eq_true, ev_iSq, ev_itS1, ev_itS2, ev_itS3, ev_itS4, ev_iEn, ev_enS1, ev_enS2, ev_iZp, ev_zpS1, ev_zpS2, ev_Ch, ev_Sl, ev_O0, ev_O1, ev_iO, ev_slT, ev_slL, ev_Rg, ev_Rg3, ev_Ls, ev_lsT, ev_lsL, ev_Isi, ev_Isi2, ev_Rev, ev_revT, ev_Wk, ev_wkN, ev_wkT, ev_tupN, ev_CntT, ev_ctT, ev_IxT, ev_ixT', ev_IxL, ev_ixL', ev_Cnt, ev_ctL, ev_Dic, ev_dg, ev_Sub, ev_Ext, ev_trI, ev_trT, ev_trL, ev_MmD, eq_self, ev_IsE, ev_CallH, ev_unN, ev_unR, ev_TryA, ev_Try, ev_exN, ev_exR, ev_exE, ev_tyN, ev_tyR, ev_tyE, ev_Raise, ev_noxN, ev_noxR, ev_Trg, ev_Cat, it, q]
  · by_cases q : (0 : Int) < ps.length
    · have q2 : ¬ (ps.length : Int) < 7 := by omega
      simp only [ev_C, ev_Var, ev_Bor, ev_Nl, ev_Bin, ev_Tup, ev_L, ev_Fn, ev_Call, ev_nil, ev_cons, ev_If, ev_And, ev_Or, ev_Not, ev_cAnd, ev_cOr, ev_cNot, ev_cB, ev_cTr, ev_toB, ev_IsN, ev_NotN, ev_isN_non, ev_isN_int, ev_isN_str, ev_isN_tup, ev_isN_bl, ev_MulL, ev_MulR, ev_DivC, ev_ModC, ev_Neg, ev_addI, ev_subI, ev_ltI, ev_leI, ev_gtI, ev_geI, ev_eqI, ev_neI, ev_eqS, ev_neS, ev_eqN, ev_neN, ev_eqNI, ev_neNI, ev_eqIN, ev_neIN, ev_eqB, ev_neB, ev_isB, ev_notB, ev_absI, ev_min2, ev_max2, ev_lenT, ev_lenL, ev_lenS, ev_tupL, ev_tupT, ev_intI, ev_intB, ev_ixT, ev_ixL, ev_ixS, at0, at1, at2, at3, atM1, ev_seq, ev_set, ev_own, ev_ret, ev_drop, ev_sIf, ev_for, ev_frz, ev_asg, ev_par2, ev_par3, ev_mVal, ev_mOwn, ev_app, ev_setv, ev_sets0, ev_sets1, ev_stv, ev_bnm, ev_btp, ev_bl0, ev_bl1, ev_R1, ev_R2, ev_iL, ev_iT, ev_itL, ev_itT, ev_forNil, ev_nolI, ev_nolN, ev_nolS, ev_nolB, ev_nolT, ev_nolL0, ev_nolL1, ev_cTrue, ev_wipe, Rz.bind_ok, Rz.bind_exc, Rz.bind_bad, Rz.ofO_some, Rz.ofO_none, onR_ok, onR_exc, onR_bad, onO_some, onO_none, List.getElem?_cons_zero, List.getElem?_cons_succ, ite_true, ite_false, if_true, if_false, reduceIte, Nat.reduceEqDiff, reduceCtorEq, Option.map_some, Option.bind_some, List.cons_append, List.nil_append, Option.map_none, Bool.false_eq_true, Bool.not_true, Bool.not_false, decide_true, decide_false, decide_eq_true_eq, beq_self_eq_true, ev_iSq, ev_itS1, ev_itS2, ev_itS3, ev_itS4, ev_iEn, ev_enS1, ev_enS2, ev_iZp, ev_zpS1, ev_zpS2, ev_Ch, ev_Sl, ev_O0, ev_O1, ev_iO, ev_slT, ev_slL, ev_Rg, ev_Rg3, ev_Ls, ev_lsT, ev_lsL, ev_Isi, ev_Isi2, ev_Rev, ev_revT, ev_Wk, ev_wkN, ev_wkT, ev_tupN, ev_CntT, ev_ctT, ev_IxT, ev_ixT', ev_IxL, ev_ixL', ev_Cnt, ev_ctL, ev_Dic, ev_dg, ev_Sub, ev_Ext, ev_trI, ev_trT, ev_trL, ev_MmD, eq_self, ev_IsE, ev_CallH, ev_unN, ev_unR, ev_TryA, ev_Try, ev_exN, ev_exR, ev_exE, ev_tyN, ev_tyR, ev_tyE, ev_Raise, ev_noxN, ev_noxR, ev_Trg, ev_Cat, it, q, q2]
    · simp only [ev_C, ev_Var, ev_Bor, ev_Nl, ev_Bin, ev_Tup, ev_L, ev_Fn, ev_Call, ev_nil, ev_cons, ev_If, ev_And, ev_Or, ev_Not, ev_cAnd, ev_cOr, ev_cNot, ev_cB, ev_cTr, ev_toB, ev_IsN, ev_NotN, ev_isN_non, ev_isN_int, ev_isN_str, ev_isN_tup, ev_isN_bl, ev_MulL, ev_MulR, ev_DivC, ev_ModC, ev_Neg, ev_addI, ev_subI, ev_ltI, ev_leI, ev_gtI, ev_geI, ev_eqI, ev_neI, ev_eqS, ev_neS, ev_eqN, ev_neN, ev_eqNI, ev_neNI, ev_eqIN, ev_neIN, ev_eqB, ev_neB, ev_isB, ev_notB, ev_absI, ev_min2, ev_max2, ev_lenT, ev_lenL, ev_lenS, ev_tupL, ev_tupT, ev_intI, ev_intB, ev_ixT, ev_ixL, ev_ixS, at0, at1, at2, at3, atM1, ev_seq, ev_set, ev_own, ev_ret, ev_drop, ev_sIf, ev_for, ev_frz, ev_asg, ev_par2, ev_par3, ev_mVal, ev_mOwn, ev_app, ev_setv, ev_sets0, ev_sets1, ev_stv, ev_bnm, ev_btp, ev_bl0, ev_bl1, ev_R1, ev_R2, ev_iL, ev_iT, ev_itL, ev_itT, ev_forNil, ev_nolI, ev_nolN, ev_nolS, ev_nolB, ev_nolT, ev_nolL0, ev_nolL1, ev_cTrue, ev_wipe, Rz.bind_ok, Rz.bind_exc, Rz.bind_bad, Rz.ofO_some, Rz.ofO_none, onR_ok, onR_exc, onR_bad, onO_some, onO_none, List.getElem?_cons_zero, List.getElem?_cons_succ, ite_true, ite_false, if_true, if_false, reduceIte, Nat.reduceEqDiff, reduceCtorEq, Option.map_some, Option.bind_some, List.cons_append, List.nil_append, Option.map_none, Bool.false_eq_true, Bool.not_true, Bool.not_false, decide_true, decide_false, decide_eq_true_eq, beq_self_eq_true, ev_iSq, ev_itS1, ev_itS2, ev_itS3, ev_itS4, ev_iEn, ev_enS1, ev_enS2, ev_iZp, ev_zpS1, ev_zpS2, ev_Ch, ev_Sl, ev_O0, ev_O1, ev_iO, ev_slT, ev_slL, ev_Rg, ev_Rg3, ev_Ls, ev_lsT, ev_lsL, ev_Isi, ev_Isi2, ev_Rev, ev_revT, ev_Wk, ev_wkN, ev_wkT, ev_tupN, ev_CntT, ev_ctT, ev_IxT, ev_ixT', ev_IxL, ev_ixL', ev_Cnt, ev_ctL, ev_Dic, ev_dg, ev_Sub, ev_Ext, ev_trI, ev_trT, ev_trL, ev_MmD, eq_self, ev_IsE, ev_CallH, ev_unN, ev_unR, ev_TryA, ev_Try, ev_exN, ev_exR, ev_exE, ev_tyN, ev_tyR, ev_tyE, ev_Raise, ev_noxN, ev_noxR, ev_Trg, ev_Cat, it, q]
theorem bf_4 {ps : List D} {k : Nat} (hk : k ≤ 60) (hod : ∀ p ∈ ps, od k p = true) (hn : 1 ≤ ps.length ∧ ps.length ≤ 6) (h : ¬ ∀ p ∈ ps, wh p 0 14 = true) : BothF (.tup [.int f, b, .tup ps, w]) false := by
  have g0 : F_law_whole [.int f, .int 9, .int 9999] = .ok (.bl true) := h0
  have g1 : F_law_whole [b, .int 0, .int (f - 1)] = .ok (.bl true) := h1
  have g2 : F_law_whole [w, .int 0, .int 5] = .ok (.bl true) := h2
  have c1 : (1 : Int) ≤ ps.length := by omega
  have c2 : (ps.length : Int) ≤ 6 := by omega
  have c3 : (0 : Int) < ps.length := by omega
  have c4 : (ps.length : Int) < 7 := by omega
  refine ⟨fnD_of (Rt.iff (by simp only [ev_C, ev_Var, ev_Bor, ev_Nl, ev_Bin, ev_Tup, ev_L, ev_Fn, ev_Call, ev_nil, ev_cons, ev_If, ev_And, ev_Or, ev_Not, ev_cAnd, ev_cOr, ev_cNot, ev_cB, ev_cTr, ev_toB, ev_IsN, ev_NotN, ev_isN_non, ev_isN_int, ev_isN_str, ev_isN_tup, ev_isN_bl, ev_MulL, ev_MulR, ev_DivC, ev_ModC, ev_Neg, ev_addI, ev_subI, ev_ltI, ev_leI, ev_gtI, ev_geI, ev_eqI, ev_neI, ev_eqS, ev_neS, ev_eqN, ev_neN, ev_eqNI, ev_neNI, ev_eqIN, ev_neIN, ev_eqB, ev_neB, ev_isB, ev_notB, ev_absI, ev_min2, ev_max2, ev_lenT, ev_lenL, ev_lenS, ev_tupL, ev_tupT, ev_intI, ev_intB, ev_ixT, ev_ixL, ev_ixS, at0, at1, at2, at3, atM1, ev_seq, ev_set, ev_own, ev_ret, ev_drop, ev_sIf, ev_for, ev_frz, ev_asg, ev_par2, ev_par3, ev_mVal, ev_mOwn, ev_app, ev_setv, ev_sets0, ev_sets1, ev_stv, ev_bnm, ev_btp, ev_bl0, ev_bl1, ev_R1, ev_R2, ev_iL, ev_iT, ev_itL, ev_itT, ev_forNil, ev_nolI, ev_nolN, ev_nolS, ev_nolB, ev_nolT, ev_nolL0, ev_nolL1, ev_cTrue, ev_wipe, Rz.bind_ok, Rz.bind_exc, Rz.bind_bad, Rz.ofO_some, Rz.ofO_none, onR_ok, onR_exc, onR_bad, onO_some, onO_none, List.getElem?_cons_zero, List.getElem?_cons_succ, ite_true, ite_false, if_true, if_false, reduceIte, Nat.reduceEqDiff, reduceCtorEq, Option.map_some, Option.bind_some, List.cons_append, List.nil_append, Option.map_none, Bool.false_eq_true, Bool.not_true, Bool.not_false, decide_true, decide_false, decide_eq_true_eq, beq_self_eq_true, ev_iSq, ev_itS1, ev_itS2, ev_itS3, ev_itS4, ev_iEn, ev_enS1, ev_enS2, ev_iZp, ev_zpS1, ev_zpS2, ev_Ch, ev_Sl, ev_O0, ev_O1, ev_iO, ev_slT, ev_slL, ev_Rg, ev_Rg3, ev_Ls, ev_lsT, ev_lsL, ev_Isi, ev_Isi2, ev_Rev, ev_revT, ev_Wk, ev_wkN, ev_wkT, ev_tupN, ev_CntT, ev_ctT, ev_IxT, ev_ixT', ev_IxL, ev_ixL', ev_Cnt, ev_ctL, ev_Dic, ev_dg, ev_Sub, ev_Ext, ev_trI, ev_trT, ev_trL, ev_MmD, eq_self, ev_IsE, ev_CallH, ev_unN, ev_unR, ev_TryA, ev_Try, ev_exN, ev_exR, ev_exE, ev_tyN, ev_tyR, ev_tyE, ev_Raise, ev_noxN, ev_noxR, ev_Trg, ev_Cat, it, len4, h0]) (Rt.seq (e1 := _) (by simp only [ev_C, ev_Var, ev_Bor, ev_Nl, ev_Bin, ev_Tup, ev_L, ev_Fn, ev_Call, ev_nil, ev_cons, ev_If, ev_And, ev_Or, ev_Not, ev_cAnd, ev_cOr, ev_cNot, ev_cB, ev_cTr, ev_toB, ev_IsN, ev_NotN, ev_isN_non, ev_isN_int, ev_isN_str, ev_isN_tup, ev_isN_bl, ev_MulL, ev_MulR, ev_DivC, ev_ModC, ev_Neg, ev_addI, ev_subI, ev_ltI, ev_leI, ev_gtI, ev_geI, ev_eqI, ev_neI, ev_eqS, ev_neS, ev_eqN, ev_neN, ev_eqNI, ev_neNI, ev_eqIN, ev_neIN, ev_eqB, ev_neB, ev_isB, ev_notB, ev_absI, ev_min2, ev_max2, ev_lenT, ev_lenL, ev_lenS, ev_tupL, ev_tupT, ev_intI, ev_intB, ev_ixT, ev_ixL, ev_ixS, at0, at1, at2, at3, atM1, ev_seq, ev_set, ev_own, ev_ret, ev_drop, ev_sIf, ev_for, ev_frz, ev_asg, ev_par2, ev_par3, ev_mVal, ev_mOwn, ev_app, ev_setv, ev_sets0, ev_sets1, ev_stv, ev_bnm, ev_btp, ev_bl0, ev_bl1, ev_R1, ev_R2, ev_iL, ev_iT, ev_itL, ev_itT, ev_forNil, ev_nolI, ev_nolN, ev_nolS, ev_nolB, ev_nolT, ev_nolL0, ev_nolL1, ev_cTrue, ev_wipe, Rz.bind_ok, Rz.bind_exc, Rz.bind_bad, Rz.ofO_some, Rz.ofO_none, onR_ok, onR_exc, onR_bad, onO_some, onO_none, List.getElem?_cons_zero, List.getElem?_cons_succ, ite_true, ite_false, if_true, if_false, reduceIte, Nat.reduceEqDiff, reduceCtorEq, Option.map_some, Option.bind_some, List.cons_append, List.nil_append, Option.map_none, Bool.false_eq_true, Bool.not_true, Bool.not_false, decide_true, decide_false, decide_eq_true_eq, beq_self_eq_true, ev_iSq, ev_itS1, ev_itS2, ev_itS3, ev_itS4, ev_iEn, ev_enS1, ev_enS2, ev_iZp, ev_zpS1, ev_zpS2, ev_Ch, ev_Sl, ev_O0, ev_O1, ev_iO, ev_slT, ev_slL, ev_Rg, ev_Rg3, ev_Ls, ev_lsT, ev_lsL, ev_Isi, ev_Isi2, ev_Rev, ev_revT, ev_Wk, ev_wkN, ev_wkT, ev_tupN, ev_CntT, ev_ctT, ev_IxT, ev_ixT', ev_IxL, ev_ixL', ev_Cnt, ev_ctL, ev_Dic, ev_dg, ev_Sub, ev_Ext, ev_trI, ev_trT, ev_trL, ev_MmD, eq_self, ev_IsE, ev_CallH, ev_unN, ev_unR, ev_TryA, ev_Try, ev_exN, ev_exR, ev_exE, ev_tyN, ev_tyR, ev_tyE, ev_Raise, ev_noxN, ev_noxR, ev_Trg, ev_Cat]; rfl) (Rt.iff (by simp only [ev_C, ev_Var, ev_Bor, ev_Nl, ev_Bin, ev_Tup, ev_L, ev_Fn, ev_Call, ev_nil, ev_cons, ev_If, ev_And, ev_Or, ev_Not, ev_cAnd, ev_cOr, ev_cNot, ev_cB, ev_cTr, ev_toB, ev_IsN, ev_NotN, ev_isN_non, ev_isN_int, ev_isN_str, ev_isN_tup, ev_isN_bl, ev_MulL, ev_MulR, ev_DivC, ev_ModC, ev_Neg, ev_addI, ev_subI, ev_ltI, ev_leI, ev_gtI, ev_geI, ev_eqI, ev_neI, ev_eqS, ev_neS, ev_eqN, ev_neN, ev_eqNI, ev_neNI, ev_eqIN, ev_neIN, ev_eqB, ev_neB, ev_isB, ev_notB, ev_absI, ev_min2, ev_max2, ev_lenT, ev_lenL, ev_lenS, ev_tupL, ev_tupT, ev_intI, ev_intB, ev_ixT, ev_ixL, ev_ixS, at0, at1, at2, at3, atM1, ev_seq, ev_set, ev_own, ev_ret, ev_drop, ev_sIf, ev_for, ev_frz, ev_asg, ev_par2, ev_par3, ev_mVal, ev_mOwn, ev_app, ev_setv, ev_sets0, ev_sets1, ev_stv, ev_bnm, ev_btp, ev_bl0, ev_bl1, ev_R1, ev_R2, ev_iL, ev_iT, ev_itL, ev_itT, ev_forNil, ev_nolI, ev_nolN, ev_nolS, ev_nolB, ev_nolT, ev_nolL0, ev_nolL1, ev_cTrue, ev_wipe, Rz.bind_ok, Rz.bind_exc, Rz.bind_bad, Rz.ofO_some, Rz.ofO_none, onR_ok, onR_exc, onR_bad, onO_some, onO_none, List.getElem?_cons_zero, List.getElem?_cons_succ, ite_true, ite_false, if_true, if_false, reduceIte, Nat.reduceEqDiff, reduceCtorEq, Option.map_some, Option.bind_some, List.cons_append, List.nil_append, Option.map_none, Bool.false_eq_true, Bool.not_true, Bool.not_false, decide_true, decide_false, decide_eq_true_eq, beq_self_eq_true, ev_iSq, ev_itS1, ev_itS2, ev_itS3, ev_itS4, ev_iEn, ev_enS1, ev_enS2, ev_iZp, ev_zpS1, ev_zpS2, ev_Ch, ev_Sl, ev_O0, ev_O1, ev_iO, ev_slT, ev_slL, ev_Rg, ev_Rg3, ev_Ls, ev_lsT, ev_lsL, ev_Isi, ev_Isi2, ev_Rev, ev_revT, ev_Wk, ev_wkN, ev_wkT, ev_tupN, ev_CntT, ev_ctT, ev_IxT, ev_ixT', ev_IxL, ev_ixL', ev_Cnt, ev_ctL, ev_Dic, ev_dg, ev_Sub, ev_Ext, ev_trI, ev_trT, ev_trL, ev_MmD, eq_self, ev_IsE, ev_CallH, ev_unN, ev_unR, ev_TryA, ev_Try, ev_exN, ev_exR, ev_exE, ev_tyN, ev_tyR, ev_tyE, ev_Raise, ev_noxN, ev_noxR, ev_Trg, ev_Cat, h1, h2]) (Rt.iff (by simp only [ev_C, ev_Var, ev_Bor, ev_Nl, ev_Bin, ev_Tup, ev_L, ev_Fn, ev_Call, ev_nil, ev_cons, ev_If, ev_And, ev_Or, ev_Not, ev_cAnd, ev_cOr, ev_cNot, ev_cB, ev_cTr, ev_toB, ev_IsN, ev_NotN, ev_isN_non, ev_isN_int, ev_isN_str, ev_isN_tup, ev_isN_bl, ev_MulL, ev_MulR, ev_DivC, ev_ModC, ev_Neg, ev_addI, ev_subI, ev_ltI, ev_leI, ev_gtI, ev_geI, ev_eqI, ev_neI, ev_eqS, ev_neS, ev_eqN, ev_neN, ev_eqNI, ev_neNI, ev_eqIN, ev_neIN, ev_eqB, ev_neB, ev_isB, ev_notB, ev_absI, ev_min2, ev_max2, ev_lenT, ev_lenL, ev_lenS, ev_tupL, ev_tupT, ev_intI, ev_intB, ev_ixT, ev_ixL, ev_ixS, at0, at1, at2, at3, atM1, ev_seq, ev_set, ev_own, ev_ret, ev_drop, ev_sIf, ev_for, ev_frz, ev_asg, ev_par2, ev_par3, ev_mVal, ev_mOwn, ev_app, ev_setv, ev_sets0, ev_sets1, ev_stv, ev_bnm, ev_btp, ev_bl0, ev_bl1, ev_R1, ev_R2, ev_iL, ev_iT, ev_itL, ev_itT, ev_forNil, ev_nolI, ev_nolN, ev_nolS, ev_nolB, ev_nolT, ev_nolL0, ev_nolL1, ev_cTrue, ev_wipe, Rz.bind_ok, Rz.bind_exc, Rz.bind_bad, Rz.ofO_some, Rz.ofO_none, onR_ok, onR_exc, onR_bad, onO_some, onO_none, List.getElem?_cons_zero, List.getElem?_cons_succ, ite_true, ite_false, if_true, if_false, reduceIte, Nat.reduceEqDiff, reduceCtorEq, Option.map_some, Option.bind_some, List.cons_append, List.nil_append, Option.map_none, Bool.false_eq_true, Bool.not_true, Bool.not_false, decide_true, decide_false, decide_eq_true_eq, beq_self_eq_true, ev_iSq, ev_itS1, ev_itS2, ev_itS3, ev_itS4, ev_iEn, ev_enS1, ev_enS2, ev_iZp, ev_zpS1, ev_zpS2, ev_Ch, ev_Sl, ev_O0, ev_O1, ev_iO, ev_slT, ev_slL, ev_Rg, ev_Rg3, ev_Ls, ev_lsT, ev_lsL, ev_Isi, ev_Isi2, ev_Rev, ev_revT, ev_Wk, ev_wkN, ev_wkT, ev_tupN, ev_CntT, ev_ctT, ev_IxT, ev_ixT', ev_IxL, ev_ixL', ev_Cnt, ev_ctL, ev_Dic, ev_dg, ev_Sub, ev_Ext, ev_trI, ev_trT, ev_trL, ev_MmD, eq_self, ev_IsE, ev_CallH, ev_unN, ev_unR, ev_TryA, ev_Try, ev_exN, ev_exR, ev_exE, ev_tyN, ev_tyR, ev_tyE, ev_Raise, ev_noxN, ev_noxR, ev_Trg, ev_Cat, it, c1, c2]) (Rt.ift ?_ (Rt.ret (by simp only [ev_C, ev_Var, ev_Bor, ev_Nl, ev_Bin, ev_Tup, ev_L, ev_Fn, ev_Call, ev_nil, ev_cons, ev_If, ev_And, ev_Or, ev_Not, ev_cAnd, ev_cOr, ev_cNot, ev_cB, ev_cTr, ev_toB, ev_IsN, ev_NotN, ev_isN_non, ev_isN_int, ev_isN_str, ev_isN_tup, ev_isN_bl, ev_MulL, ev_MulR, ev_DivC, ev_ModC, ev_Neg, ev_addI, ev_subI, ev_ltI, ev_leI, ev_gtI, ev_geI, ev_eqI, ev_neI, ev_eqS, ev_neS, ev_eqN, ev_neN, ev_eqNI, ev_neNI, ev_eqIN, ev_neIN, ev_eqB, ev_neB, ev_isB, ev_notB, ev_absI, ev_min2, ev_max2, ev_lenT, ev_lenL, ev_lenS, ev_tupL, ev_tupT, ev_intI, ev_intB, ev_ixT, ev_ixL, ev_ixS, at0, at1, at2, at3, atM1, ev_seq, ev_set, ev_own, ev_ret, ev_drop, ev_sIf, ev_for, ev_frz, ev_asg, ev_par2, ev_par3, ev_mVal, ev_mOwn, ev_app, ev_setv, ev_sets0, ev_sets1, ev_stv, ev_bnm, ev_btp, ev_bl0, ev_bl1, ev_R1, ev_R2, ev_iL, ev_iT, ev_itL, ev_itT, ev_forNil, ev_nolI, ev_nolN, ev_nolS, ev_nolB, ev_nolT, ev_nolL0, ev_nolL1, ev_cTrue, ev_wipe, Rz.bind_ok, Rz.bind_exc, Rz.bind_bad, Rz.ofO_some, Rz.ofO_none, onR_ok, onR_exc, onR_bad, onO_some, onO_none, List.getElem?_cons_zero, List.getElem?_cons_succ, ite_true, ite_false, if_true, if_false, reduceIte, Nat.reduceEqDiff, reduceCtorEq, Option.map_some, Option.bind_some, List.cons_append, List.nil_append, Option.map_none, Bool.false_eq_true, Bool.not_true, Bool.not_false, decide_true, decide_false, decide_eq_true_eq, beq_self_eq_true, ev_iSq, ev_itS1, ev_itS2, ev_itS3, ev_itS4, ev_iEn, ev_enS1, ev_enS2, ev_iZp, ev_zpS1, ev_zpS2, ev_Ch, ev_Sl, ev_O0, ev_O1, ev_iO, ev_slT, ev_slL, ev_Rg, ev_Rg3, ev_Ls, ev_lsT, ev_lsL, ev_Isi, ev_Isi2, ev_Rev, ev_revT, ev_Wk, ev_wkN, ev_wkT, ev_tupN, ev_CntT, ev_ctT, ev_IxT, ev_ixT', ev_IxL, ev_ixL', ev_Cnt, ev_ctL, ev_Dic, ev_dg, ev_Sub, ev_Ext, ev_trI, ev_trT, ev_trL, ev_MmD, eq_self, ev_IsE, ev_CallH, ev_unN, ev_unR, ev_TryA, ev_Try, ev_exN, ev_exR, ev_exE, ev_tyN, ev_tyR, ev_tyE, ev_Raise, ev_noxN, ev_noxR, ev_Trg, ev_Cat]))))))), fnD_of (Rt.iff (by simp only [ev_C, ev_Var, ev_Bor, ev_Nl, ev_Bin, ev_Tup, ev_L, ev_Fn, ev_Call, ev_nil, ev_cons, ev_If, ev_And, ev_Or, ev_Not, ev_cAnd, ev_cOr, ev_cNot, ev_cB, ev_cTr, ev_toB, ev_IsN, ev_NotN, ev_isN_non, ev_isN_int, ev_isN_str, ev_isN_tup, ev_isN_bl, ev_MulL, ev_MulR, ev_DivC, ev_ModC, ev_Neg, ev_addI, ev_subI, ev_ltI, ev_leI, ev_gtI, ev_geI, ev_eqI, ev_neI, ev_eqS, ev_neS, ev_eqN, ev_neN, ev_eqNI, ev_neNI, ev_eqIN, ev_neIN, ev_eqB, ev_neB, ev_isB, ev_notB, ev_absI, ev_min2, ev_max2, ev_lenT, ev_lenL, ev_lenS, ev_tupL, ev_tupT, ev_intI, ev_intB, ev_ixT, ev_ixL, ev_ixS, at0, at1, at2, at3, atM1, ev_seq, ev_set, ev_own, ev_ret, ev_drop, ev_sIf, ev_for, ev_frz, ev_asg, ev_par2, ev_par3, ev_mVal, ev_mOwn, ev_app, ev_setv, ev_sets0, ev_sets1, ev_stv, ev_bnm, ev_btp, ev_bl0, ev_bl1, ev_R1, ev_R2, ev_iL, ev_iT, ev_itL, ev_itT, ev_forNil, ev_nolI, ev_nolN, ev_nolS, ev_nolB, ev_nolT, ev_nolL0, ev_nolL1, ev_cTrue, ev_wipe, Rz.bind_ok, Rz.bind_exc, Rz.bind_bad, Rz.ofO_some, Rz.ofO_none, onR_ok, onR_exc, onR_bad, onO_some, onO_none, List.getElem?_cons_zero, List.getElem?_cons_succ, ite_true, ite_false, if_true, if_false, reduceIte, Nat.reduceEqDiff, reduceCtorEq, Option.map_some, Option.bind_some, List.cons_append, List.nil_append, Option.map_none, Bool.false_eq_true, Bool.not_true, Bool.not_false, decide_true, decide_false, decide_eq_true_eq, beq_self_eq_true, ev_iSq, ev_itS1, ev_itS2, ev_itS3, ev_itS4, ev_iEn, ev_enS1, ev_enS2, ev_iZp, ev_zpS1, ev_zpS2, ev_Ch, ev_Sl, ev_O0, ev_O1, ev_iO, ev_slT, ev_slL, ev_Rg, ev_Rg3, ev_Ls, ev_lsT, ev_lsL, ev_Isi, ev_Isi2, ev_Rev, ev_revT, ev_Wk, ev_wkN, ev_wkT, ev_tupN, ev_CntT, ev_ctT, ev_IxT, ev_ixT', ev_IxL, ev_ixL', ev_Cnt, ev_ctL, ev_Dic, ev_dg, ev_Sub, ev_Ext, ev_trI, ev_trT, ev_trL, ev_MmD, eq_self, ev_IsE, ev_CallH, ev_unN, ev_unR, ev_TryA, ev_Try, ev_exN, ev_exR, ev_exE, ev_tyN, ev_tyR, ev_tyE, ev_Raise, ev_noxN, ev_noxR, ev_Trg, ev_Cat, it, len4, g0]) (Rt.iff (by simp only [ev_C, ev_Var, ev_Bor, ev_Nl, ev_Bin, ev_Tup, ev_L, ev_Fn, ev_Call, ev_nil, ev_cons, ev_If, ev_And, ev_Or, ev_Not, ev_cAnd, ev_cOr, ev_cNot, ev_cB, ev_cTr, ev_toB, ev_IsN, ev_NotN, ev_isN_non, ev_isN_int, ev_isN_str, ev_isN_tup, ev_isN_bl, ev_MulL, ev_MulR, ev_DivC, ev_ModC, ev_Neg, ev_addI, ev_subI, ev_ltI, ev_leI, ev_gtI, ev_geI, ev_eqI, ev_neI, ev_eqS, ev_neS, ev_eqN, ev_neN, ev_eqNI, ev_neNI, ev_eqIN, ev_neIN, ev_eqB, ev_neB, ev_isB, ev_notB, ev_absI, ev_min2, ev_max2, ev_lenT, ev_lenL, ev_lenS, ev_tupL, ev_tupT, ev_intI, ev_intB, ev_ixT, ev_ixL, ev_ixS, at0, at1, at2, at3, atM1, ev_seq, ev_set, ev_own, ev_ret, ev_drop, ev_sIf, ev_for, ev_frz, ev_asg, ev_par2, ev_par3, ev_mVal, ev_mOwn, ev_app, ev_setv, ev_sets0, ev_sets1, ev_stv, ev_bnm, ev_btp, ev_bl0, ev_bl1, ev_R1, ev_R2, ev_iL, ev_iT, ev_itL, ev_itT, ev_forNil, ev_nolI, ev_nolN, ev_nolS, ev_nolB, ev_nolT, ev_nolL0, ev_nolL1, ev_cTrue, ev_wipe, Rz.bind_ok, Rz.bind_exc, Rz.bind_bad, Rz.ofO_some, Rz.ofO_none, onR_ok, onR_exc, onR_bad, onO_some, onO_none, List.getElem?_cons_zero, List.getElem?_cons_succ, ite_true, ite_false, if_true, if_false, reduceIte, Nat.reduceEqDiff, reduceCtorEq, Option.map_some, Option.bind_some, List.cons_append, List.nil_append, Option.map_none, Bool.false_eq_true, Bool.not_true, Bool.not_false, decide_true, decide_false, decide_eq_true_eq, beq_self_eq_true, ev_iSq, ev_itS1, ev_itS2, ev_itS3, ev_itS4, ev_iEn, ev_enS1, ev_enS2, ev_iZp, ev_zpS1, ev_zpS2, ev_Ch, ev_Sl, ev_O0, ev_O1, ev_iO, ev_slT, ev_slL, ev_Rg, ev_Rg3, ev_Ls, ev_lsT, ev_lsL, ev_Isi, ev_Isi2, ev_Rev, ev_revT, ev_Wk, ev_wkN, ev_wkT, ev_tupN, ev_CntT, ev_ctT, ev_IxT, ev_ixT', ev_IxL, ev_ixL', ev_Cnt, ev_ctL, ev_Dic, ev_dg, ev_Sub, ev_Ext, ev_trI, ev_trT, ev_trL, ev_MmD, eq_self, ev_IsE, ev_CallH, ev_unN, ev_unR, ev_TryA, ev_Try, ev_exN, ev_exR, ev_exE, ev_tyN, ev_tyR, ev_tyE, ev_Raise, ev_noxN, ev_noxR, ev_Trg, ev_Cat, g1, g2]) (Rt.set (x := .tup ps) (by simp only [ev_C, ev_Var, ev_Bor, ev_Nl, ev_Bin, ev_Tup, ev_L, ev_Fn, ev_Call, ev_nil, ev_cons, ev_If, ev_And, ev_Or, ev_Not, ev_cAnd, ev_cOr, ev_cNot, ev_cB, ev_cTr, ev_toB, ev_IsN, ev_NotN, ev_isN_non, ev_isN_int, ev_isN_str, ev_isN_tup, ev_isN_bl, ev_MulL, ev_MulR, ev_DivC, ev_ModC, ev_Neg, ev_addI, ev_subI, ev_ltI, ev_leI, ev_gtI, ev_geI, ev_eqI, ev_neI, ev_eqS, ev_neS, ev_eqN, ev_neN, ev_eqNI, ev_neNI, ev_eqIN, ev_neIN, ev_eqB, ev_neB, ev_isB, ev_notB, ev_absI, ev_min2, ev_max2, ev_lenT, ev_lenL, ev_lenS, ev_tupL, ev_tupT, ev_intI, ev_intB, ev_ixT, ev_ixL, ev_ixS, at0, at1, at2, at3, atM1, ev_seq, ev_set, ev_own, ev_ret, ev_drop, ev_sIf, ev_for, ev_frz, ev_asg, ev_par2, ev_par3, ev_mVal, ev_mOwn, ev_app, ev_setv, ev_sets0, ev_sets1, ev_stv, ev_bnm, ev_btp, ev_bl0, ev_bl1, ev_R1, ev_R2, ev_iL, ev_iT, ev_itL, ev_itT, ev_forNil, ev_nolI, ev_nolN, ev_nolS, ev_nolB, ev_nolT, ev_nolL0, ev_nolL1, ev_cTrue, ev_wipe, Rz.bind_ok, Rz.bind_exc, Rz.bind_bad, Rz.ofO_some, Rz.ofO_none, onR_ok, onR_exc, onR_bad, onO_some, onO_none, List.getElem?_cons_zero, List.getElem?_cons_succ, ite_true, ite_false, if_true, if_false, reduceIte, Nat.reduceEqDiff, reduceCtorEq, Option.map_some, Option.bind_some, List.cons_append, List.nil_append, Option.map_none, Bool.false_eq_true, Bool.not_true, Bool.not_false, decide_true, decide_false, decide_eq_true_eq, beq_self_eq_true, ev_iSq, ev_itS1, ev_itS2, ev_itS3, ev_itS4, ev_iEn, ev_enS1, ev_enS2, ev_iZp, ev_zpS1, ev_zpS2, ev_Ch, ev_Sl, ev_O0, ev_O1, ev_iO, ev_slT, ev_slL, ev_Rg, ev_Rg3, ev_Ls, ev_lsT, ev_lsL, ev_Isi, ev_Isi2, ev_Rev, ev_revT, ev_Wk, ev_wkN, ev_wkT, ev_tupN, ev_CntT, ev_ctT, ev_IxT, ev_ixT', ev_IxL, ev_ixL', ev_Cnt, ev_ctL, ev_Dic, ev_dg, ev_Sub, ev_Ext, ev_trI, ev_trT, ev_trL, ev_MmD, eq_self, ev_IsE, ev_CallH, ev_unN, ev_unR, ev_TryA, ev_Try, ev_exN, ev_exR, ev_exE, ev_tyN, ev_tyR, ev_tyE, ev_Raise, ev_noxN, ev_noxR, ev_Trg, ev_Cat]) (Rt.iff (by simp only [ev_C, ev_Var, ev_Bor, ev_Nl, ev_Bin, ev_Tup, ev_L, ev_Fn, ev_Call, ev_nil, ev_cons, ev_If, ev_And, ev_Or, ev_Not, ev_cAnd, ev_cOr, ev_cNot, ev_cB, ev_cTr, ev_toB, ev_IsN, ev_NotN, ev_isN_non, ev_isN_int, ev_isN_str, ev_isN_tup, ev_isN_bl, ev_MulL, ev_MulR, ev_DivC, ev_ModC, ev_Neg, ev_addI, ev_subI, ev_ltI, ev_leI, ev_gtI, ev_geI, ev_eqI, ev_neI, ev_eqS, ev_neS, ev_eqN, ev_neN, ev_eqNI, ev_neNI, ev_eqIN, ev_neIN, ev_eqB, ev_neB, ev_isB, ev_notB, ev_absI, ev_min2, ev_max2, ev_lenT, ev_lenL, ev_lenS, ev_tupL, ev_tupT, ev_intI, ev_intB, ev_ixT, ev_ixL, ev_ixS, at0, at1, at2, at3, atM1, ev_seq, ev_set, ev_own, ev_ret, ev_drop, ev_sIf, ev_for, ev_frz, ev_asg, ev_par2, ev_par3, ev_mVal, ev_mOwn, ev_app, ev_setv, ev_sets0, ev_sets1, ev_stv, ev_bnm, ev_btp, ev_bl0, ev_bl1, ev_R1, ev_R2, ev_iL, ev_iT, ev_itL, ev_itT, ev_forNil, ev_nolI, ev_nolN, ev_nolS, ev_nolB, ev_nolT, ev_nolL0, ev_nolL1, ev_cTrue, ev_wipe, Rz.bind_ok, Rz.bind_exc, Rz.bind_bad, Rz.ofO_some, Rz.ofO_none, onR_ok, onR_exc, onR_bad, onO_some, onO_none, List.getElem?_cons_zero, List.getElem?_cons_succ, ite_true, ite_false, if_true, if_false, reduceIte, Nat.reduceEqDiff, reduceCtorEq, Option.map_some, Option.bind_some, List.cons_append, List.nil_append, Option.map_none, Bool.false_eq_true, Bool.not_true, Bool.not_false, decide_true, decide_false, decide_eq_true_eq, beq_self_eq_true, ev_iSq, ev_itS1, ev_itS2, ev_itS3, ev_itS4, ev_iEn, ev_enS1, ev_enS2, ev_iZp, ev_zpS1, ev_zpS2, ev_Ch, ev_Sl, ev_O0, ev_O1, ev_iO, ev_slT, ev_slL, ev_Rg, ev_Rg3, ev_Ls, ev_lsT, ev_lsL, ev_Isi, ev_Isi2, ev_Rev, ev_revT, ev_Wk, ev_wkN, ev_wkT, ev_tupN, ev_CntT, ev_ctT, ev_IxT, ev_ixT', ev_IxL, ev_ixL', ev_Cnt, ev_ctL, ev_Dic, ev_dg, ev_Sub, ev_Ext, ev_trI, ev_trT, ev_trL, ev_MmD, eq_self, ev_IsE, ev_CallH, ev_unN, ev_unR, ev_TryA, ev_Try, ev_exN, ev_exR, ev_exE, ev_tyN, ev_tyR, ev_tyE, ev_Raise, ev_noxN, ev_noxR, ev_Trg, ev_Cat, it, c3, c4]) (Rt.ift ?_ (Rt.ret (by simp only [ev_C, ev_Var, ev_Bor, ev_Nl, ev_Bin, ev_Tup, ev_L, ev_Fn, ev_Call, ev_nil, ev_cons, ev_If, ev_And, ev_Or, ev_Not, ev_cAnd, ev_cOr, ev_cNot, ev_cB, ev_cTr, ev_toB, ev_IsN, ev_NotN, ev_isN_non, ev_isN_int, ev_isN_str, ev_isN_tup, ev_isN_bl, ev_MulL, ev_MulR, ev_DivC, ev_ModC, ev_Neg, ev_addI, ev_subI, ev_ltI, ev_leI, ev_gtI, ev_geI, ev_eqI, ev_neI, ev_eqS, ev_neS, ev_eqN, ev_neN, ev_eqNI, ev_neNI, ev_eqIN, ev_neIN, ev_eqB, ev_neB, ev_isB, ev_notB, ev_absI, ev_min2, ev_max2, ev_lenT, ev_lenL, ev_lenS, ev_tupL, ev_tupT, ev_intI, ev_intB, ev_ixT, ev_ixL, ev_ixS, at0, at1, at2, at3, atM1, ev_seq, ev_set, ev_own, ev_ret, ev_drop, ev_sIf, ev_for, ev_frz, ev_asg, ev_par2, ev_par3, ev_mVal, ev_mOwn, ev_app, ev_setv, ev_sets0, ev_sets1, ev_stv, ev_bnm, ev_btp, ev_bl0, ev_bl1, ev_R1, ev_R2, ev_iL, ev_iT, ev_itL, ev_itT, ev_forNil, ev_nolI, ev_nolN, ev_nolS, ev_nolB, ev_nolT, ev_nolL0, ev_nolL1, ev_cTrue, ev_wipe, Rz.bind_ok, Rz.bind_exc, Rz.bind_bad, Rz.ofO_some, Rz.ofO_none, onR_ok, onR_exc, onR_bad, onO_some, onO_none, List.getElem?_cons_zero, List.getElem?_cons_succ, ite_true, ite_false, if_true, if_false, reduceIte, Nat.reduceEqDiff, reduceCtorEq, Option.map_some, Option.bind_some, List.cons_append, List.nil_append, Option.map_none, Bool.false_eq_true, Bool.not_true, Bool.not_false, decide_true, decide_false, decide_eq_true_eq, beq_self_eq_true, ev_iSq, ev_itS1, ev_itS2, ev_itS3, ev_itS4, ev_iEn, ev_enS1, ev_enS2, ev_iZp, ev_zpS1, ev_zpS2, ev_Ch, ev_Sl, ev_O0, ev_O1, ev_iO, ev_slT, ev_slL, ev_Rg, ev_Rg3, ev_Ls, ev_lsT, ev_lsL, ev_Isi, ev_Isi2, ev_Rev, ev_revT, ev_Wk, ev_wkN, ev_wkT, ev_tupN, ev_CntT, ev_ctT, ev_IxT, ev_ixT', ev_IxL, ev_ixL', ev_Cnt, ev_ctL, ev_Dic, ev_dg, ev_Sub, ev_Ext, ev_trI, ev_trT, ev_trL, ev_MmD, eq_self, ev_IsE, ev_CallH, ev_unN, ev_unR, ev_TryA, ev_Try, ev_exN, ev_exR, ev_exE, ev_tyN, ev_tyR, ev_tyE, ev_Raise, ev_noxN, ev_noxR, ev_Trg, ev_Cat])))))))⟩
  · simp only [ev_C, ev_Var, ev_Bor, ev_Nl, ev_Bin, ev_Tup, ev_L, ev_Fn, ev_Call, ev_nil, ev_cons, ev_If, ev_And, ev_Or, ev_Not, ev_cAnd, ev_cOr, ev_cNot, ev_cB, ev_cTr, ev_toB, ev_IsN, ev_NotN, ev_isN_non, ev_isN_int, ev_isN_str, ev_isN_tup, ev_isN_bl, ev_MulL, ev_MulR, ev_DivC, ev_ModC, ev_Neg, ev_addI, ev_subI, ev_ltI, ev_leI, ev_gtI, ev_geI, ev_eqI, ev_neI, ev_eqS, ev_neS, ev_eqN, ev_neN, ev_eqNI, ev_neNI, ev_eqIN, ev_neIN, ev_eqB, ev_neB, ev_isB, ev_notB, ev_absI, ev_min2, ev_max2, ev_lenT, ev_lenL, ev_lenS, ev_tupL, ev_tupT, ev_intI, ev_intB, ev_ixT, ev_ixL, ev_ixS, at0, at1, at2, at3, atM1, ev_seq, ev_set, ev_own, ev_ret, ev_drop, ev_sIf, ev_for, ev_frz, ev_asg, ev_par2, ev_par3, ev_mVal, ev_mOwn, ev_app, ev_setv, ev_sets0, ev_sets1, ev_stv, ev_bnm, ev_btp, ev_bl0, ev_bl1, ev_R1, ev_R2, ev_iL, ev_iT, ev_itL, ev_itT, ev_forNil, ev_nolI, ev_nolN, ev_nolS, ev_nolB, ev_nolT, ev_nolL0, ev_nolL1, ev_cTrue, ev_wipe, Rz.bind_ok, Rz.bind_exc, Rz.bind_bad, Rz.ofO_some, Rz.ofO_none, onR_ok, onR_exc, onR_bad, onO_some, onO_none, List.getElem?_cons_zero, List.getElem?_cons_succ, ite_true, ite_false, if_true, if_false, reduceIte, Nat.reduceEqDiff, reduceCtorEq, Option.map_some, Option.bind_some, List.cons_append, List.nil_append, Option.map_none, Bool.false_eq_true, Bool.not_true, Bool.not_false, decide_true, decide_false, decide_eq_true_eq, beq_self_eq_true, ev_iSq, ev_itS1, ev_itS2, ev_itS3, ev_itS4, ev_iEn, ev_enS1, ev_enS2, ev_iZp, ev_zpS1, ev_zpS2, ev_Ch, ev_Sl, ev_O0, ev_O1, ev_iO, ev_slT, ev_slL, ev_Rg, ev_Rg3, ev_Ls, ev_lsT, ev_lsL, ev_Isi, ev_Isi2, ev_Rev, ev_revT, ev_Wk, ev_wkN, ev_wkT, ev_tupN, ev_CntT, ev_ctT, ev_IxT, ev_ixT', ev_IxL, ev_ixL', ev_Cnt, ev_ctL, ev_Dic, ev_dg, ev_Sub, ev_Ext, ev_trI, ev_trT, ev_trL, ev_MmD, eq_self, ev_IsE, ev_CallH, ev_unN, ev_unR, ev_TryA, ev_Try, ev_exN, ev_exR, ev_exE, ev_tyN, ev_tyR, ev_tyE, ev_Raise, ev_noxN, ev_noxR, ev_Trg, ev_Cat]
    rw [lc_ok (ds := ps) (by simp only [ev_C, ev_Var, ev_Bor, ev_Nl, ev_Bin, ev_Tup, ev_L, ev_Fn, ev_Call, ev_nil, ev_cons, ev_If, ev_And, ev_Or, ev_Not, ev_cAnd, ev_cOr, ev_cNot, ev_cB, ev_cTr, ev_toB, ev_IsN, ev_NotN, ev_isN_non, ev_isN_int, ev_isN_str, ev_isN_tup, ev_isN_bl, ev_MulL, ev_MulR, ev_DivC, ev_ModC, ev_Neg, ev_addI, ev_subI, ev_ltI, ev_leI, ev_gtI, ev_geI, ev_eqI, ev_neI, ev_eqS, ev_neS, ev_eqN, ev_neN, ev_eqNI, ev_neNI, ev_eqIN, ev_neIN, ev_eqB, ev_neB, ev_isB, ev_notB, ev_absI, ev_min2, ev_max2, ev_lenT, ev_lenL, ev_lenS, ev_tupL, ev_tupT, ev_intI, ev_intB, ev_ixT, ev_ixL, ev_ixS, at0, at1, at2, at3, atM1, ev_seq, ev_set, ev_own, ev_ret, ev_drop, ev_sIf, ev_for, ev_frz, ev_asg, ev_par2, ev_par3, ev_mVal, ev_mOwn, ev_app, ev_setv, ev_sets0, ev_sets1, ev_stv, ev_bnm, ev_btp, ev_bl0, ev_bl1, ev_R1, ev_R2, ev_iL, ev_iT, ev_itL, ev_itT, ev_forNil, ev_nolI, ev_nolN, ev_nolS, ev_nolB, ev_nolT, ev_nolL0, ev_nolL1, ev_cTrue, ev_wipe, Rz.bind_ok, Rz.bind_exc, Rz.bind_bad, Rz.ofO_some, Rz.ofO_none, onR_ok, onR_exc, onR_bad, onO_some, onO_none, List.getElem?_cons_zero, List.getElem?_cons_succ, ite_true, ite_false, if_true, if_false, reduceIte, Nat.reduceEqDiff, reduceCtorEq, Option.map_some, Option.bind_some, List.cons_append, List.nil_append, Option.map_none, Bool.false_eq_true, Bool.not_true, Bool.not_false, decide_true, decide_false, decide_eq_true_eq, beq_self_eq_true, ev_iSq, ev_itS1, ev_itS2, ev_itS3, ev_itS4, ev_iEn, ev_enS1, ev_enS2, ev_iZp, ev_zpS1, ev_zpS2, ev_Ch, ev_Sl, ev_O0, ev_O1, ev_iO, ev_slT, ev_slL, ev_Rg, ev_Rg3, ev_Ls, ev_lsT, ev_lsL, ev_Isi, ev_Isi2, ev_Rev, ev_revT, ev_Wk, ev_wkN, ev_wkT, ev_tupN, ev_CntT, ev_ctT, ev_IxT, ev_ixT', ev_IxL, ev_ixL', ev_Cnt, ev_ctL, ev_Dic, ev_dg, ev_Sub, ev_Ext, ev_trI, ev_trT, ev_trL, ev_MmD, eq_self, ev_IsE, ev_CallH, ev_unN, ev_unR, ev_TryA, ev_Try, ev_exN, ev_exR, ev_exE, ev_tyN, ev_tyR, ev_tyE, ev_Raise, ev_noxN, ev_noxR, ev_Trg, ev_Cat]) (by omega)]
    have := lc_each (x := id) (y := fun p => D.bl (wh p 0 14)) (p := .nm 6) (f := (eCall F_is_whole [(eVar 6), (eC (.int 0)), (eC (.int 14))])) (e := wipeE (((((En.st [D.tup [D.int f, b, D.tup ps, w]]).set 1 (SV.val (D.int f))).set 2 (SV.val b)).set 3 (SV.val (D.tup ps))).set 4 (SV.val w)) [6]) ps fun p hp => ⟨_, ev_bnm _ _, by
      have := whole1 (hod p hp) 0 14
      simp only [ev_C, ev_Var, ev_Bor, ev_Nl, ev_Bin, ev_Tup, ev_L, ev_Fn, ev_Call, ev_nil, ev_cons, ev_If, ev_And, ev_Or, ev_Not, ev_cAnd, ev_cOr, ev_cNot, ev_cB, ev_cTr, ev_toB, ev_IsN, ev_NotN, ev_isN_non, ev_isN_int, ev_isN_str, ev_isN_tup, ev_isN_bl, ev_MulL, ev_MulR, ev_DivC, ev_ModC, ev_Neg, ev_addI, ev_subI, ev_ltI, ev_leI, ev_gtI, ev_geI, ev_eqI, ev_neI, ev_eqS, ev_neS, ev_eqN, ev_neN, ev_eqNI, ev_neNI, ev_eqIN, ev_neIN, ev_eqB, ev_neB, ev_isB, ev_notB, ev_absI, ev_min2, ev_max2, ev_lenT, ev_lenL, ev_lenS, ev_tupL, ev_tupT, ev_intI, ev_intB, ev_ixT, ev_ixL, ev_ixS, at0, at1, at2, at3, atM1, ev_seq, ev_set, ev_own, ev_ret, ev_drop, ev_sIf, ev_for, ev_frz, ev_asg, ev_par2, ev_par3, ev_mVal, ev_mOwn, ev_app, ev_setv, ev_sets0, ev_sets1, ev_stv, ev_bnm, ev_btp, ev_bl0, ev_bl1, ev_R1, ev_R2, ev_iL, ev_iT, ev_itL, ev_itT, ev_forNil, ev_nolI, ev_nolN, ev_nolS, ev_nolB, ev_nolT, ev_nolL0, ev_nolL1, ev_cTrue, ev_wipe, Rz.bind_ok, Rz.bind_exc, Rz.bind_bad, Rz.ofO_some, Rz.ofO_none, onR_ok, onR_exc, onR_bad, onO_some, onO_none, List.getElem?_cons_zero, List.getElem?_cons_succ, ite_true, ite_false, if_true, if_false, reduceIte, Nat.reduceEqDiff, reduceCtorEq, Option.map_some, Option.bind_some, List.cons_append, List.nil_append, Option.map_none, Bool.false_eq_true, Bool.not_true, Bool.not_false, decide_true, decide_false, decide_eq_true_eq, beq_self_eq_true, ev_iSq, ev_itS1, ev_itS2, ev_itS3, ev_itS4, ev_iEn, ev_enS1, ev_enS2, ev_iZp, ev_zpS1, ev_zpS2, ev_Ch, ev_Sl, ev_O0, ev_O1, ev_iO, ev_slT, ev_slL, ev_Rg, ev_Rg3, ev_Ls, ev_lsT, ev_lsL, ev_Isi, ev_Isi2, ev_Rev, ev_revT, ev_Wk, ev_wkN, ev_wkT, ev_tupN, ev_CntT, ev_ctT, ev_IxT, ev_ixT', ev_IxL, ev_ixL', ev_Cnt, ev_ctL, ev_Dic, ev_dg, ev_Sub, ev_Ext, ev_trI, ev_trT, ev_trL, ev_MmD, eq_self, ev_IsE, ev_CallH, ev_unN, ev_unR, ev_TryA, ev_Try, ev_exN, ev_exR, ev_exE, ev_tyN, ev_tyR, ev_tyE, ev_Raise, ev_noxN, ev_noxR, ev_Trg, ev_Cat, id, this]⟩
    rw [List.map_id] at this
    rw [this]
    have hf : (ps.map fun p => wh p 0 14).all id = false := by
      cases z : (ps.map fun p => wh p 0 14).all id with
      | false => rfl
      | true => exact absurd (fun p hp => by simpa using (List.all_eq_true.mp z) (wh p 0 14) (List.mem_map.mpr ⟨p, hp, rfl⟩)) h
    simp only [ev_C, ev_Var, ev_Bor, ev_Nl, ev_Bin, ev_Tup, ev_L, ev_Fn, ev_Call, ev_nil, ev_cons, ev_If, ev_And, ev_Or, ev_Not, ev_cAnd, ev_cOr, ev_cNot, ev_cB, ev_cTr, ev_toB, ev_IsN, ev_NotN, ev_isN_non, ev_isN_int, ev_isN_str, ev_isN_tup, ev_isN_bl, ev_MulL, ev_MulR, ev_DivC, ev_ModC, ev_Neg, ev_addI, ev_subI, ev_ltI, ev_leI, ev_gtI, ev_geI, ev_eqI, ev_neI, ev_eqS, ev_neS, ev_eqN, ev_neN, ev_eqNI, ev_neNI, ev_eqIN, ev_neIN, ev_eqB, ev_neB, ev_isB, ev_notB, ev_absI, ev_min2, ev_max2, ev_lenT, ev_lenL, ev_lenS, ev_tupL, ev_tupT, ev_intI, ev_intB, ev_ixT, ev_ixL, ev_ixS, at0, at1, at2, at3, atM1, ev_seq, ev_set, ev_own, ev_ret, ev_drop, ev_sIf, ev_for, ev_frz, ev_asg, ev_par2, ev_par3, ev_mVal, ev_mOwn, ev_app, ev_setv, ev_sets0, ev_sets1, ev_stv, ev_bnm, ev_btp, ev_bl0, ev_bl1, ev_R1, ev_R2, ev_iL, ev_iT, ev_itL, ev_itT, ev_forNil, ev_nolI, ev_nolN, ev_nolS, ev_nolB, ev_nolT, ev_nolL0, ev_nolL1, ev_cTrue, ev_wipe, Rz.bind_ok, Rz.bind_exc, Rz.bind_bad, Rz.ofO_some, Rz.ofO_none, onR_ok, onR_exc, onR_bad, onO_some, onO_none, List.getElem?_cons_zero, List.getElem?_cons_succ, ite_true, ite_false, if_true, if_false, reduceIte, Nat.reduceEqDiff, reduceCtorEq, Option.map_some, Option.bind_some, List.cons_append, List.nil_append, Option.map_none, Bool.false_eq_true, Bool.not_true, Bool.not_false, decide_true, decide_false, decide_eq_true_eq, beq_self_eq_true, ev_iSq, ev_itS1, ev_itS2, ev_itS3, ev_itS4, ev_iEn, ev_enS1, ev_enS2, ev_iZp, ev_zpS1, ev_zpS2, ev_Ch, ev_Sl, ev_O0, ev_O1, ev_iO, ev_slT, ev_slL, ev_Rg, ev_Rg3, ev_Ls, ev_lsT, ev_lsL, ev_Isi, ev_Isi2, ev_Rev, ev_revT, ev_Wk, ev_wkN, ev_wkT, ev_tupN, ev_CntT, ev_ctT, ev_IxT, ev_ixT', ev_IxL, ev_ixL', ev_Cnt, ev_ctL, ev_Dic, ev_dg, ev_Sub, ev_Ext, ev_trI, ev_trT, ev_trL, ev_MmD, eq_self, ev_IsE, ev_CallH, ev_unN, ev_unR, ev_TryA, ev_Try, ev_exN, ev_exR, ev_exE, ev_tyN, ev_tyR, ev_tyE, ev_Raise, ev_noxN, ev_noxR, ev_Trg, ev_Cat, allD, blL_map, hf]
  · simp only [ev_C, ev_Var, ev_Bor, ev_Nl, ev_Bin, ev_Tup, ev_L, ev_Fn, ev_Call, ev_nil, ev_cons, ev_If, ev_And, ev_Or, ev_Not, ev_cAnd, ev_cOr, ev_cNot, ev_cB, ev_cTr, ev_toB, ev_IsN, ev_NotN, ev_isN_non, ev_isN_int, ev_isN_str, ev_isN_tup, ev_isN_bl, ev_MulL, ev_MulR, ev_DivC, ev_ModC, ev_Neg, ev_addI, ev_subI, ev_ltI, ev_leI, ev_gtI, ev_geI, ev_eqI, ev_neI, ev_eqS, ev_neS, ev_eqN, ev_neN, ev_eqNI, ev_neNI, ev_eqIN, ev_neIN, ev_eqB, ev_neB, ev_isB, ev_notB, ev_absI, ev_min2, ev_max2, ev_lenT, ev_lenL, ev_lenS, ev_tupL, ev_tupT, ev_intI, ev_intB, ev_ixT, ev_ixL, ev_ixS, at0, at1, at2, at3, atM1, ev_seq, ev_set, ev_own, ev_ret, ev_drop, ev_sIf, ev_for, ev_frz, ev_asg, ev_par2, ev_par3, ev_mVal, ev_mOwn, ev_app, ev_setv, ev_sets0, ev_sets1, ev_stv, ev_bnm, ev_btp, ev_bl0, ev_bl1, ev_R1, ev_R2, ev_iL, ev_iT, ev_itL, ev_itT, ev_forNil, ev_nolI, ev_nolN, ev_nolS, ev_nolB, ev_nolT, ev_nolL0, ev_nolL1, ev_cTrue, ev_wipe, Rz.bind_ok, Rz.bind_exc, Rz.bind_bad, Rz.ofO_some, Rz.ofO_none, onR_ok, onR_exc, onR_bad, onO_some, onO_none, List.getElem?_cons_zero, List.getElem?_cons_succ, ite_true, ite_false, if_true, if_false, reduceIte, Nat.reduceEqDiff, reduceCtorEq, Option.map_some, Option.bind_some, List.cons_append, List.nil_append, Option.map_none, Bool.false_eq_true, Bool.not_true, Bool.not_false, decide_true, decide_false, decide_eq_true_eq, beq_self_eq_true, ev_iSq, ev_itS1, ev_itS2, ev_itS3, ev_itS4, ev_iEn, ev_enS1, ev_enS2, ev_iZp, ev_zpS1, ev_zpS2, ev_Ch, ev_Sl, ev_O0, ev_O1, ev_iO, ev_slT, ev_slL, ev_Rg, ev_Rg3, ev_Ls, ev_lsT, ev_lsL, ev_Isi, ev_Isi2, ev_Rev, ev_revT, ev_Wk, ev_wkN, ev_wkT, ev_tupN, ev_CntT, ev_ctT, ev_IxT, ev_ixT', ev_IxL, ev_ixL', ev_Cnt, ev_ctL, ev_Dic, ev_dg, ev_Sub, ev_Ext, ev_trI, ev_trT, ev_trL, ev_MmD, eq_self, ev_IsE, ev_CallH, ev_unN, ev_unR, ev_TryA, ev_Try, ev_exN, ev_exR, ev_exE, ev_tyN, ev_tyR, ev_tyE, ev_Raise, ev_noxN, ev_noxR, ev_Trg, ev_Cat]
    rw [lc_ok (ds := ps) (by simp only [ev_C, ev_Var, ev_Bor, ev_Nl, ev_Bin, ev_Tup, ev_L, ev_Fn, ev_Call, ev_nil, ev_cons, ev_If, ev_And, ev_Or, ev_Not, ev_cAnd, ev_cOr, ev_cNot, ev_cB, ev_cTr, ev_toB, ev_IsN, ev_NotN, ev_isN_non, ev_isN_int, ev_isN_str, ev_isN_tup, ev_isN_bl, ev_MulL, ev_MulR, ev_DivC, ev_ModC, ev_Neg, ev_addI, ev_subI, ev_ltI, ev_leI, ev_gtI, ev_geI, ev_eqI, ev_neI, ev_eqS, ev_neS, ev_eqN, ev_neN, ev_eqNI, ev_neNI, ev_eqIN, ev_neIN, ev_eqB, ev_neB, ev_isB, ev_notB, ev_absI, ev_min2, ev_max2, ev_lenT, ev_lenL, ev_lenS, ev_tupL, ev_tupT, ev_intI, ev_intB, ev_ixT, ev_ixL, ev_ixS, at0, at1, at2, at3, atM1, ev_seq, ev_set, ev_own, ev_ret, ev_drop, ev_sIf, ev_for, ev_frz, ev_asg, ev_par2, ev_par3, ev_mVal, ev_mOwn, ev_app, ev_setv, ev_sets0, ev_sets1, ev_stv, ev_bnm, ev_btp, ev_bl0, ev_bl1, ev_R1, ev_R2, ev_iL, ev_iT, ev_itL, ev_itT, ev_forNil, ev_nolI, ev_nolN, ev_nolS, ev_nolB, ev_nolT, ev_nolL0, ev_nolL1, ev_cTrue, ev_wipe, Rz.bind_ok, Rz.bind_exc, Rz.bind_bad, Rz.ofO_some, Rz.ofO_none, onR_ok, onR_exc, onR_bad, onO_some, onO_none, List.getElem?_cons_zero, List.getElem?_cons_succ, ite_true, ite_false, if_true, if_false, reduceIte, Nat.reduceEqDiff, reduceCtorEq, Option.map_some, Option.bind_some, List.cons_append, List.nil_append, Option.map_none, Bool.false_eq_true, Bool.not_true, Bool.not_false, decide_true, decide_false, decide_eq_true_eq, beq_self_eq_true, ev_iSq, ev_itS1, ev_itS2, ev_itS3, ev_itS4, ev_iEn, ev_enS1, ev_enS2, ev_iZp, ev_zpS1, ev_zpS2, ev_Ch, ev_Sl, ev_O0, ev_O1, ev_iO, ev_slT, ev_slL, ev_Rg, ev_Rg3, ev_Ls, ev_lsT, ev_lsL, ev_Isi, ev_Isi2, ev_Rev, ev_revT, ev_Wk, ev_wkN, ev_wkT, ev_tupN, ev_CntT, ev_ctT, ev_IxT, ev_ixT', ev_IxL, ev_ixL', ev_Cnt, ev_ctL, ev_Dic, ev_dg, ev_Sub, ev_Ext, ev_trI, ev_trT, ev_trL, ev_MmD, eq_self, ev_IsE, ev_CallH, ev_unN, ev_unR, ev_TryA, ev_Try, ev_exN, ev_exR, ev_exE, ev_tyN, ev_tyR, ev_tyE, ev_Raise, ev_noxN, ev_noxR, ev_Trg, ev_Cat]) (by omega)]
    rw [lc_fltD (P := fun p => !wh p 0 14) ps fun p hp => ⟨by
      have : F_law_whole [p, .int 0, .int 14] = .ok (.bl (wh p 0 14)) := whole1 (hod p hp) 0 14
      simp only [ev_C, ev_Var, ev_Bor, ev_Nl, ev_Bin, ev_Tup, ev_L, ev_Fn, ev_Call, ev_nil, ev_cons, ev_If, ev_And, ev_Or, ev_Not, ev_cAnd, ev_cOr, ev_cNot, ev_cB, ev_cTr, ev_toB, ev_IsN, ev_NotN, ev_isN_non, ev_isN_int, ev_isN_str, ev_isN_tup, ev_isN_bl, ev_MulL, ev_MulR, ev_DivC, ev_ModC, ev_Neg, ev_addI, ev_subI, ev_ltI, ev_leI, ev_gtI, ev_geI, ev_eqI, ev_neI, ev_eqS, ev_neS, ev_eqN, ev_neN, ev_eqNI, ev_neNI, ev_eqIN, ev_neIN, ev_eqB, ev_neB, ev_isB, ev_notB, ev_absI, ev_min2, ev_max2, ev_lenT, ev_lenL, ev_lenS, ev_tupL, ev_tupT, ev_intI, ev_intB, ev_ixT, ev_ixL, ev_ixS, at0, at1, at2, at3, atM1, ev_seq, ev_set, ev_own, ev_ret, ev_drop, ev_sIf, ev_for, ev_frz, ev_asg, ev_par2, ev_par3, ev_mVal, ev_mOwn, ev_app, ev_setv, ev_sets0, ev_sets1, ev_stv, ev_bnm, ev_btp, ev_bl0, ev_bl1, ev_R1, ev_R2, ev_iL, ev_iT, ev_itL, ev_itT, ev_forNil, ev_nolI, ev_nolN, ev_nolS, ev_nolB, ev_nolT, ev_nolL0, ev_nolL1, ev_cTrue, ev_wipe, Rz.bind_ok, Rz.bind_exc, Rz.bind_bad, Rz.ofO_some, Rz.ofO_none, onR_ok, onR_exc, onR_bad, onO_some, onO_none, List.getElem?_cons_zero, List.getElem?_cons_succ, ite_true, ite_false, if_true, if_false, reduceIte, Nat.reduceEqDiff, reduceCtorEq, Option.map_some, Option.bind_some, List.cons_append, List.nil_append, Option.map_none, Bool.false_eq_true, Bool.not_true, Bool.not_false, decide_true, decide_false, decide_eq_true_eq, beq_self_eq_true, ev_iSq, ev_itS1, ev_itS2, ev_itS3, ev_itS4, ev_iEn, ev_enS1, ev_enS2, ev_iZp, ev_zpS1, ev_zpS2, ev_Ch, ev_Sl, ev_O0, ev_O1, ev_iO, ev_slT, ev_slL, ev_Rg, ev_Rg3, ev_Ls, ev_lsT, ev_lsL, ev_Isi, ev_Isi2, ev_Rev, ev_revT, ev_Wk, ev_wkN, ev_wkT, ev_tupN, ev_CntT, ev_ctT, ev_IxT, ev_ixT', ev_IxL, ev_ixL', ev_Cnt, ev_ctL, ev_Dic, ev_dg, ev_Sub, ev_Ext, ev_trI, ev_trT, ev_trL, ev_MmD, eq_self, ev_IsE, ev_CallH, ev_unN, ev_unR, ev_TryA, ev_Try, ev_exN, ev_exR, ev_exE, ev_tyN, ev_tyR, ev_tyE, ev_Raise, ev_noxN, ev_noxR, ev_Trg, ev_Cat, this], by simp only [ev_C, ev_Var, ev_Bor, ev_Nl, ev_Bin, ev_Tup, ev_L, ev_Fn, ev_Call, ev_nil, ev_cons, ev_If, ev_And, ev_Or, ev_Not, ev_cAnd, ev_cOr, ev_cNot, ev_cB, ev_cTr, ev_toB, ev_IsN, ev_NotN, ev_isN_non, ev_isN_int, ev_isN_str, ev_isN_tup, ev_isN_bl, ev_MulL, ev_MulR, ev_DivC, ev_ModC, ev_Neg, ev_addI, ev_subI, ev_ltI, ev_leI, ev_gtI, ev_geI, ev_eqI, ev_neI, ev_eqS, ev_neS, ev_eqN, ev_neN, ev_eqNI, ev_neNI, ev_eqIN, ev_neIN, ev_eqB, ev_neB, ev_isB, ev_notB, ev_absI, ev_min2, ev_max2, ev_lenT, ev_lenL, ev_lenS, ev_tupL, ev_tupT, ev_intI, ev_intB, ev_ixT, ev_ixL, ev_ixS, at0, at1, at2, at3, atM1, ev_seq, ev_set, ev_own, ev_ret, ev_drop, ev_sIf, ev_for, ev_frz, ev_asg, ev_par2, ev_par3, ev_mVal, ev_mOwn, ev_app, ev_setv, ev_sets0, ev_sets1, ev_stv, ev_bnm, ev_btp, ev_bl0, ev_bl1, ev_R1, ev_R2, ev_iL, ev_iT, ev_itL, ev_itT, ev_forNil, ev_nolI, ev_nolN, ev_nolS, ev_nolB, ev_nolT, ev_nolL0, ev_nolL1, ev_cTrue, ev_wipe, Rz.bind_ok, Rz.bind_exc, Rz.bind_bad, Rz.ofO_some, Rz.ofO_none, onR_ok, onR_exc, onR_bad, onO_some, onO_none, List.getElem?_cons_zero, List.getElem?_cons_succ, ite_true, ite_false, if_true, if_false, reduceIte, Nat.reduceEqDiff, reduceCtorEq, Option.map_some, Option.bind_some, List.cons_append, List.nil_append, Option.map_none, Bool.false_eq_true, Bool.not_true, Bool.not_false, decide_true, decide_false, decide_eq_true_eq, beq_self_eq_true, ev_iSq, ev_itS1, ev_itS2, ev_itS3, ev_itS4, ev_iEn, ev_enS1, ev_enS2, ev_iZp, ev_zpS1, ev_zpS2, ev_Ch, ev_Sl, ev_O0, ev_O1, ev_iO, ev_slT, ev_slL, ev_Rg, ev_Rg3, ev_Ls, ev_lsT, ev_lsL, ev_Isi, ev_Isi2, ev_Rev, ev_revT, ev_Wk, ev_wkN, ev_wkT, ev_tupN, ev_CntT, ev_ctT, ev_IxT, ev_ixT', ev_IxL, ev_ixL', ev_Cnt, ev_ctL, ev_Dic, ev_dg, ev_Sub, ev_Ext, ev_trI, ev_trT, ev_trL, ev_MmD, eq_self, ev_IsE, ev_CallH, ev_unN, ev_unR, ev_TryA, ev_Try, ev_exN, ev_exR, ev_exE, ev_tyN, ev_tyR, ev_tyE, ev_Raise, ev_noxN, ev_noxR, ev_Trg, ev_Cat]⟩]
    have hne : (ps.filter fun p => !wh p 0 14) ≠ [] := fun z => h fun p hp => by
      have := (List.filter_eq_nil_iff.mp z) p hp
      simpa using this
    have ho : okdL 63 (ps.filter fun p => !wh p 0 14) = true := okdL_all fun p hp => okd_le (by omega) (od_ok (hod p (List.mem_filter.mp hp).1))
    have n0 : neD (.lst (ps.filter fun p => !wh p 0 14)) (.lst []) = some (.bl true) := by
      show (if _ then _ else _) = _
      rw [if_pos ⟨by simp only [okd]; exact ho, by simp [okd, okdL]⟩]
      cases q : (ps.filter fun p => !wh p 0 14) with
      | nil => exact absurd q hne
      | cons p r => simp [eqv, eqvL]
    simp only [ev_C, ev_Var, ev_Bor, ev_Nl, ev_Bin, ev_Tup, ev_L, ev_Fn, ev_Call, ev_nil, ev_cons, ev_If, ev_And, ev_Or, ev_Not, ev_cAnd, ev_cOr, ev_cNot, ev_cB, ev_cTr, ev_toB, ev_IsN, ev_NotN, ev_isN_non, ev_isN_int, ev_isN_str, ev_isN_tup, ev_isN_bl, ev_MulL, ev_MulR, ev_DivC, ev_ModC, ev_Neg, ev_addI, ev_subI, ev_ltI, ev_leI, ev_gtI, ev_geI, ev_eqI, ev_neI, ev_eqS, ev_neS, ev_eqN, ev_neN, ev_eqNI, ev_neNI, ev_eqIN, ev_neIN, ev_eqB, ev_neB, ev_isB, ev_notB, ev_absI, ev_min2, ev_max2, ev_lenT, ev_lenL, ev_lenS, ev_tupL, ev_tupT, ev_intI, ev_intB, ev_ixT, ev_ixL, ev_ixS, at0, at1, at2, at3, atM1, ev_seq, ev_set, ev_own, ev_ret, ev_drop, ev_sIf, ev_for, ev_frz, ev_asg, ev_par2, ev_par3, ev_mVal, ev_mOwn, ev_app, ev_setv, ev_sets0, ev_sets1, ev_stv, ev_bnm, ev_btp, ev_bl0, ev_bl1, ev_R1, ev_R2, ev_iL, ev_iT, ev_itL, ev_itT, ev_forNil, ev_nolI, ev_nolN, ev_nolS, ev_nolB, ev_nolT, ev_nolL0, ev_nolL1, ev_cTrue, ev_wipe, Rz.bind_ok, Rz.bind_exc, Rz.bind_bad, Rz.ofO_some, Rz.ofO_none, onR_ok, onR_exc, onR_bad, onO_some, onO_none, List.getElem?_cons_zero, List.getElem?_cons_succ, ite_true, ite_false, if_true, if_false, reduceIte, Nat.reduceEqDiff, reduceCtorEq, Option.map_some, Option.bind_some, List.cons_append, List.nil_append, Option.map_none, Bool.false_eq_true, Bool.not_true, Bool.not_false, decide_true, decide_false, decide_eq_true_eq, beq_self_eq_true, ev_iSq, ev_itS1, ev_itS2, ev_itS3, ev_itS4, ev_iEn, ev_enS1, ev_enS2, ev_iZp, ev_zpS1, ev_zpS2, ev_Ch, ev_Sl, ev_O0, ev_O1, ev_iO, ev_slT, ev_slL, ev_Rg, ev_Rg3, ev_Ls, ev_lsT, ev_lsL, ev_Isi, ev_Isi2, ev_Rev, ev_revT, ev_Wk, ev_wkN, ev_wkT, ev_tupN, ev_CntT, ev_ctT, ev_IxT, ev_ixT', ev_IxL, ev_ixL', ev_Cnt, ev_ctL, ev_Dic, ev_dg, ev_Sub, ev_Ext, ev_trI, ev_trT, ev_trL, ev_MmD, eq_self, ev_IsE, ev_CallH, ev_unN, ev_unR, ev_TryA, ev_Try, ev_exN, ev_exR, ev_exE, ev_tyN, ev_tyR, ev_tyE, ev_Raise, ev_noxN, ev_noxR, ev_Trg, ev_Cat, n0]
end
theorem lib_book {b : Book} (h : b.Pre) (n1 : 1 ≤ b.pw.length) : ∃ c : Bool, F_law_is_book [b.d] = .ok (.bl c) ∧ (c = true ↔ b.Ok) := by
  have w0 : F_law_whole [.int b.full, .int 9, .int 9999] = .ok (.bl true) := by
    have := F_is_whole_eq b.full 9 9999
    rw [decide_eq_true ⟨h.f1, h.f2⟩] at this
    exact this
  have w1 : F_law_whole [.int b.low, .int 0, .int (b.full - 1)] = .ok (.bl true) := by
    have := F_is_whole_eq b.low 0 (b.full - 1)
    rw [decide_eq_true ⟨h.l1, by have := h.l2; omega⟩] at this
    exact this
  have w2 : F_law_whole [.int b.wait, .int 0, .int 5] = .ok (.bl true) := by
    have := F_is_whole_eq b.wait 0 5
    rw [decide_eq_true ⟨h.w1, h.w2⟩] at this
    exact this
  have n2 := h.n2
  have c3 : (0 : Int) < b.pw.length := by omega
  have c4 : (b.pw.length : Int) < 7 := by omega
  have key : ∀ {d : D}, (∀ e : En, e.v 0 = .val b.d → e.v 1 = .val (.tup (b.pw.map D.int)) → Rt (sSeq (sFor (iR1 (eBin subD (eFn lenD [(eVar 1)]) (eC (.int 1)))) (Pat.nm 2) g_law_is_book_b0) (sRet (eC (.bl true))) e) d) → F_law_is_book [b.d] = .ok d := by
    intro d hk
    refine fnD_of (Rt.iff (by simp only [ev_C, ev_Var, ev_Bor, ev_Nl, ev_Bin, ev_Tup, ev_L, ev_Fn, ev_Call, ev_nil, ev_cons, ev_If, ev_And, ev_Or, ev_Not, ev_cAnd, ev_cOr, ev_cNot, ev_cB, ev_cTr, ev_toB, ev_IsN, ev_NotN, ev_isN_non, ev_isN_int, ev_isN_str, ev_isN_tup, ev_isN_bl, ev_MulL, ev_MulR, ev_DivC, ev_ModC, ev_Neg, ev_addI, ev_subI, ev_ltI, ev_leI, ev_gtI, ev_geI, ev_eqI, ev_neI, ev_eqS, ev_neS, ev_eqN, ev_neN, ev_eqNI, ev_neNI, ev_eqIN, ev_neIN, ev_eqB, ev_neB, ev_isB, ev_notB, ev_absI, ev_min2, ev_max2, ev_lenT, ev_lenL, ev_lenS, ev_tupL, ev_tupT, ev_intI, ev_intB, ev_ixT, ev_ixL, ev_ixS, at0, at1, at2, at3, atM1, ev_seq, ev_set, ev_own, ev_ret, ev_drop, ev_sIf, ev_for, ev_frz, ev_asg, ev_par2, ev_par3, ev_mVal, ev_mOwn, ev_app, ev_setv, ev_sets0, ev_sets1, ev_stv, ev_bnm, ev_btp, ev_bl0, ev_bl1, ev_R1, ev_R2, ev_iL, ev_iT, ev_itL, ev_itT, ev_forNil, ev_nolI, ev_nolN, ev_nolS, ev_nolB, ev_nolT, ev_nolL0, ev_nolL1, ev_cTrue, ev_wipe, Rz.bind_ok, Rz.bind_exc, Rz.bind_bad, Rz.ofO_some, Rz.ofO_none, onR_ok, onR_exc, onR_bad, onO_some, onO_none, List.getElem?_cons_zero, List.getElem?_cons_succ, ite_true, ite_false, if_true, if_false, reduceIte, Nat.reduceEqDiff, reduceCtorEq, Option.map_some, Option.bind_some, List.cons_append, List.nil_append, Option.map_none, Bool.false_eq_true, Bool.not_true, Bool.not_false, decide_true, decide_false, decide_eq_true_eq, beq_self_eq_true, ev_iSq, ev_itS1, ev_itS2, ev_itS3, ev_itS4, ev_iEn, ev_enS1, ev_enS2, ev_iZp, ev_zpS1, ev_zpS2, ev_Ch, ev_Sl, ev_O0, ev_O1, ev_iO, ev_slT, ev_slL, ev_Rg, ev_Rg3, ev_Ls, ev_lsT, ev_lsL, ev_Isi, ev_Isi2, ev_Rev, ev_revT, ev_Wk, ev_wkN, ev_wkT, ev_tupN, ev_CntT, ev_ctT, ev_IxT, ev_ixT', ev_IxL, ev_ixL', ev_Cnt, ev_ctL, ev_Dic, ev_dg, ev_Sub, ev_Ext, ev_trI, ev_trT, ev_trL, ev_MmD, eq_self, ev_IsE, ev_CallH, ev_unN, ev_unR, ev_TryA, ev_Try, ev_exN, ev_exR, ev_exE, ev_tyN, ev_tyR, ev_tyE, ev_Raise, ev_noxN, ev_noxR, ev_Trg, ev_Cat, it, bd0, w0, Book.d, len4]) ?_)
    refine Rt.iff (by simp only [ev_C, ev_Var, ev_Bor, ev_Nl, ev_Bin, ev_Tup, ev_L, ev_Fn, ev_Call, ev_nil, ev_cons, ev_If, ev_And, ev_Or, ev_Not, ev_cAnd, ev_cOr, ev_cNot, ev_cB, ev_cTr, ev_toB, ev_IsN, ev_NotN, ev_isN_non, ev_isN_int, ev_isN_str, ev_isN_tup, ev_isN_bl, ev_MulL, ev_MulR, ev_DivC, ev_ModC, ev_Neg, ev_addI, ev_subI, ev_ltI, ev_leI, ev_gtI, ev_geI, ev_eqI, ev_neI, ev_eqS, ev_neS, ev_eqN, ev_neN, ev_eqNI, ev_neNI, ev_eqIN, ev_neIN, ev_eqB, ev_neB, ev_isB, ev_notB, ev_absI, ev_min2, ev_max2, ev_lenT, ev_lenL, ev_lenS, ev_tupL, ev_tupT, ev_intI, ev_intB, ev_ixT, ev_ixL, ev_ixS, at0, at1, at2, at3, atM1, ev_seq, ev_set, ev_own, ev_ret, ev_drop, ev_sIf, ev_for, ev_frz, ev_asg, ev_par2, ev_par3, ev_mVal, ev_mOwn, ev_app, ev_setv, ev_sets0, ev_sets1, ev_stv, ev_bnm, ev_btp, ev_bl0, ev_bl1, ev_R1, ev_R2, ev_iL, ev_iT, ev_itL, ev_itT, ev_forNil, ev_nolI, ev_nolN, ev_nolS, ev_nolB, ev_nolT, ev_nolL0, ev_nolL1, ev_cTrue, ev_wipe, Rz.bind_ok, Rz.bind_exc, Rz.bind_bad, Rz.ofO_some, Rz.ofO_none, onR_ok, onR_exc, onR_bad, onO_some, onO_none, List.getElem?_cons_zero, List.getElem?_cons_succ, ite_true, ite_false, if_true, if_false, reduceIte, Nat.reduceEqDiff, reduceCtorEq, Option.map_some, Option.bind_some, List.cons_append, List.nil_append, Option.map_none, Bool.false_eq_true, Bool.not_true, Bool.not_false, decide_true, decide_false, decide_eq_true_eq, beq_self_eq_true, ev_iSq, ev_itS1, ev_itS2, ev_itS3, ev_itS4, ev_iEn, ev_enS1, ev_enS2, ev_iZp, ev_zpS1, ev_zpS2, ev_Ch, ev_Sl, ev_O0, ev_O1, ev_iO, ev_slT, ev_slL, ev_Rg, ev_Rg3, ev_Ls, ev_lsT, ev_lsL, ev_Isi, ev_Isi2, ev_Rev, ev_revT, ev_Wk, ev_wkN, ev_wkT, ev_tupN, ev_CntT, ev_ctT, ev_IxT, ev_ixT', ev_IxL, ev_ixL', ev_Cnt, ev_ctL, ev_Dic, ev_dg, ev_Sub, ev_Ext, ev_trI, ev_trT, ev_trL, ev_MmD, eq_self, ev_IsE, ev_CallH, ev_unN, ev_unR, ev_TryA, ev_Try, ev_exN, ev_exR, ev_exE, ev_tyN, ev_tyR, ev_tyE, ev_Raise, ev_noxN, ev_noxR, ev_Trg, ev_Cat, Book.d, w1, w2]) ?_
    refine Rt.set (x := .tup (b.pw.map D.int)) (by simp only [ev_C, ev_Var, ev_Bor, ev_Nl, ev_Bin, ev_Tup, ev_L, ev_Fn, ev_Call, ev_nil, ev_cons, ev_If, ev_And, ev_Or, ev_Not, ev_cAnd, ev_cOr, ev_cNot, ev_cB, ev_cTr, ev_toB, ev_IsN, ev_NotN, ev_isN_non, ev_isN_int, ev_isN_str, ev_isN_tup, ev_isN_bl, ev_MulL, ev_MulR, ev_DivC, ev_ModC, ev_Neg, ev_addI, ev_subI, ev_ltI, ev_leI, ev_gtI, ev_geI, ev_eqI, ev_neI, ev_eqS, ev_neS, ev_eqN, ev_neN, ev_eqNI, ev_neNI, ev_eqIN, ev_neIN, ev_eqB, ev_neB, ev_isB, ev_notB, ev_absI, ev_min2, ev_max2, ev_lenT, ev_lenL, ev_lenS, ev_tupL, ev_tupT, ev_intI, ev_intB, ev_ixT, ev_ixL, ev_ixS, at0, at1, at2, at3, atM1, ev_seq, ev_set, ev_own, ev_ret, ev_drop, ev_sIf, ev_for, ev_frz, ev_asg, ev_par2, ev_par3, ev_mVal, ev_mOwn, ev_app, ev_setv, ev_sets0, ev_sets1, ev_stv, ev_bnm, ev_btp, ev_bl0, ev_bl1, ev_R1, ev_R2, ev_iL, ev_iT, ev_itL, ev_itT, ev_forNil, ev_nolI, ev_nolN, ev_nolS, ev_nolB, ev_nolT, ev_nolL0, ev_nolL1, ev_cTrue, ev_wipe, Rz.bind_ok, Rz.bind_exc, Rz.bind_bad, Rz.ofO_some, Rz.ofO_none, onR_ok, onR_exc, onR_bad, onO_some, onO_none, List.getElem?_cons_zero, List.getElem?_cons_succ, ite_true, ite_false, if_true, if_false, reduceIte, Nat.reduceEqDiff, reduceCtorEq, Option.map_some, Option.bind_some, List.cons_append, List.nil_append, Option.map_none, Bool.false_eq_true, Bool.not_true, Bool.not_false, decide_true, decide_false, decide_eq_true_eq, beq_self_eq_true, ev_iSq, ev_itS1, ev_itS2, ev_itS3, ev_itS4, ev_iEn, ev_enS1, ev_enS2, ev_iZp, ev_zpS1, ev_zpS2, ev_Ch, ev_Sl, ev_O0, ev_O1, ev_iO, ev_slT, ev_slL, ev_Rg, ev_Rg3, ev_Ls, ev_lsT, ev_lsL, ev_Isi, ev_Isi2, ev_Rev, ev_revT, ev_Wk, ev_wkN, ev_wkT, ev_tupN, ev_CntT, ev_ctT, ev_IxT, ev_ixT', ev_IxL, ev_ixL', ev_Cnt, ev_ctL, ev_Dic, ev_dg, ev_Sub, ev_Ext, ev_trI, ev_trT, ev_trL, ev_MmD, eq_self, ev_IsE, ev_CallH, ev_unN, ev_unR, ev_TryA, ev_Try, ev_exN, ev_exR, ev_exE, ev_tyN, ev_tyR, ev_tyE, ev_Raise, ev_noxN, ev_noxR, ev_Trg, ev_Cat, bd2]) ?_
    refine Rt.iff (by simp only [ev_C, ev_Var, ev_Bor, ev_Nl, ev_Bin, ev_Tup, ev_L, ev_Fn, ev_Call, ev_nil, ev_cons, ev_If, ev_And, ev_Or, ev_Not, ev_cAnd, ev_cOr, ev_cNot, ev_cB, ev_cTr, ev_toB, ev_IsN, ev_NotN, ev_isN_non, ev_isN_int, ev_isN_str, ev_isN_tup, ev_isN_bl, ev_MulL, ev_MulR, ev_DivC, ev_ModC, ev_Neg, ev_addI, ev_subI, ev_ltI, ev_leI, ev_gtI, ev_geI, ev_eqI, ev_neI, ev_eqS, ev_neS, ev_eqN, ev_neN, ev_eqNI, ev_neNI, ev_eqIN, ev_neIN, ev_eqB, ev_neB, ev_isB, ev_notB, ev_absI, ev_min2, ev_max2, ev_lenT, ev_lenL, ev_lenS, ev_tupL, ev_tupT, ev_intI, ev_intB, ev_ixT, ev_ixL, ev_ixS, at0, at1, at2, at3, atM1, ev_seq, ev_set, ev_own, ev_ret, ev_drop, ev_sIf, ev_for, ev_frz, ev_asg, ev_par2, ev_par3, ev_mVal, ev_mOwn, ev_app, ev_setv, ev_sets0, ev_sets1, ev_stv, ev_bnm, ev_btp, ev_bl0, ev_bl1, ev_R1, ev_R2, ev_iL, ev_iT, ev_itL, ev_itT, ev_forNil, ev_nolI, ev_nolN, ev_nolS, ev_nolB, ev_nolT, ev_nolL0, ev_nolL1, ev_cTrue, ev_wipe, Rz.bind_ok, Rz.bind_exc, Rz.bind_bad, Rz.ofO_some, Rz.ofO_none, onR_ok, onR_exc, onR_bad, onO_some, onO_none, List.getElem?_cons_zero, List.getElem?_cons_succ, ite_true, ite_false, if_true, if_false, reduceIte, Nat.reduceEqDiff, reduceCtorEq, Option.map_some, Option.bind_some, List.cons_append, List.nil_append, Option.map_none, Bool.false_eq_true, Bool.not_true, Bool.not_false, decide_true, decide_false, decide_eq_true_eq, beq_self_eq_true, ev_iSq, ev_itS1, ev_itS2, ev_itS3, ev_itS4, ev_iEn, ev_enS1, ev_enS2, ev_iZp, ev_zpS1, ev_zpS2, ev_Ch, ev_Sl, ev_O0, ev_O1, ev_iO, ev_slT, ev_slL, ev_Rg, ev_Rg3, ev_Ls, ev_lsT, ev_lsL, ev_Isi, ev_Isi2, ev_Rev, ev_revT, ev_Wk, ev_wkN, ev_wkT, ev_tupN, ev_CntT, ev_ctT, ev_IxT, ev_ixT', ev_IxL, ev_ixL', ev_Cnt, ev_ctL, ev_Dic, ev_dg, ev_Sub, ev_Ext, ev_trI, ev_trT, ev_trL, ev_MmD, eq_self, ev_IsE, ev_CallH, ev_unN, ev_unR, ev_TryA, ev_Try, ev_exN, ev_exR, ev_exE, ev_tyN, ev_tyR, ev_tyE, ev_Raise, ev_noxN, ev_noxR, ev_Trg, ev_Cat, it, List.length_map, c3, c4]) (Rt.iff ?_ ?_)
    · simp only [ev_C, ev_Var, ev_Bor, ev_Nl, ev_Bin, ev_Tup, ev_L, ev_Fn, ev_Call, ev_nil, ev_cons, ev_If, ev_And, ev_Or, ev_Not, ev_cAnd, ev_cOr, ev_cNot, ev_cB, ev_cTr, ev_toB, ev_IsN, ev_NotN, ev_isN_non, ev_isN_int, ev_isN_str, ev_isN_tup, ev_isN_bl, ev_MulL, ev_MulR, ev_DivC, ev_ModC, ev_Neg, ev_addI, ev_subI, ev_ltI, ev_leI, ev_gtI, ev_geI, ev_eqI, ev_neI, ev_eqS, ev_neS, ev_eqN, ev_neN, ev_eqNI, ev_neNI, ev_eqIN, ev_neIN, ev_eqB, ev_neB, ev_isB, ev_notB, ev_absI, ev_min2, ev_max2, ev_lenT, ev_lenL, ev_lenS, ev_tupL, ev_tupT, ev_intI, ev_intB, ev_ixT, ev_ixL, ev_ixS, at0, at1, at2, at3, atM1, ev_seq, ev_set, ev_own, ev_ret, ev_drop, ev_sIf, ev_for, ev_frz, ev_asg, ev_par2, ev_par3, ev_mVal, ev_mOwn, ev_app, ev_setv, ev_sets0, ev_sets1, ev_stv, ev_bnm, ev_btp, ev_bl0, ev_bl1, ev_R1, ev_R2, ev_iL, ev_iT, ev_itL, ev_itT, ev_forNil, ev_nolI, ev_nolN, ev_nolS, ev_nolB, ev_nolT, ev_nolL0, ev_nolL1, ev_cTrue, ev_wipe, Rz.bind_ok, Rz.bind_exc, Rz.bind_bad, Rz.ofO_some, Rz.ofO_none, onR_ok, onR_exc, onR_bad, onO_some, onO_none, List.getElem?_cons_zero, List.getElem?_cons_succ, ite_true, ite_false, if_true, if_false, reduceIte, Nat.reduceEqDiff, reduceCtorEq, Option.map_some, Option.bind_some, List.cons_append, List.nil_append, Option.map_none, Bool.false_eq_true, Bool.not_true, Bool.not_false, decide_true, decide_false, decide_eq_true_eq, beq_self_eq_true, ev_iSq, ev_itS1, ev_itS2, ev_itS3, ev_itS4, ev_iEn, ev_enS1, ev_enS2, ev_iZp, ev_zpS1, ev_zpS2, ev_Ch, ev_Sl, ev_O0, ev_O1, ev_iO, ev_slT, ev_slL, ev_Rg, ev_Rg3, ev_Ls, ev_lsT, ev_lsL, ev_Isi, ev_Isi2, ev_Rev, ev_revT, ev_Wk, ev_wkN, ev_wkT, ev_tupN, ev_CntT, ev_ctT, ev_IxT, ev_ixT', ev_IxL, ev_ixL', ev_Cnt, ev_ctL, ev_Dic, ev_dg, ev_Sub, ev_Ext, ev_trI, ev_trT, ev_trL, ev_MmD, eq_self, ev_IsE, ev_CallH, ev_unN, ev_unR, ev_TryA, ev_Try, ev_exN, ev_exR, ev_exE, ev_tyN, ev_tyR, ev_tyE, ev_Raise, ev_noxN, ev_noxR, ev_Trg, ev_Cat]
      rw [lc_ok (ds := b.pw.map D.int) (by simp only [ev_C, ev_Var, ev_Bor, ev_Nl, ev_Bin, ev_Tup, ev_L, ev_Fn, ev_Call, ev_nil, ev_cons, ev_If, ev_And, ev_Or, ev_Not, ev_cAnd, ev_cOr, ev_cNot, ev_cB, ev_cTr, ev_toB, ev_IsN, ev_NotN, ev_isN_non, ev_isN_int, ev_isN_str, ev_isN_tup, ev_isN_bl, ev_MulL, ev_MulR, ev_DivC, ev_ModC, ev_Neg, ev_addI, ev_subI, ev_ltI, ev_leI, ev_gtI, ev_geI, ev_eqI, ev_neI, ev_eqS, ev_neS, ev_eqN, ev_neN, ev_eqNI, ev_neNI, ev_eqIN, ev_neIN, ev_eqB, ev_neB, ev_isB, ev_notB, ev_absI, ev_min2, ev_max2, ev_lenT, ev_lenL, ev_lenS, ev_tupL, ev_tupT, ev_intI, ev_intB, ev_ixT, ev_ixL, ev_ixS, at0, at1, at2, at3, atM1, ev_seq, ev_set, ev_own, ev_ret, ev_drop, ev_sIf, ev_for, ev_frz, ev_asg, ev_par2, ev_par3, ev_mVal, ev_mOwn, ev_app, ev_setv, ev_sets0, ev_sets1, ev_stv, ev_bnm, ev_btp, ev_bl0, ev_bl1, ev_R1, ev_R2, ev_iL, ev_iT, ev_itL, ev_itT, ev_forNil, ev_nolI, ev_nolN, ev_nolS, ev_nolB, ev_nolT, ev_nolL0, ev_nolL1, ev_cTrue, ev_wipe, Rz.bind_ok, Rz.bind_exc, Rz.bind_bad, Rz.ofO_some, Rz.ofO_none, onR_ok, onR_exc, onR_bad, onO_some, onO_none, List.getElem?_cons_zero, List.getElem?_cons_succ, ite_true, ite_false, if_true, if_false, reduceIte, Nat.reduceEqDiff, reduceCtorEq, Option.map_some, Option.bind_some, List.cons_append, List.nil_append, Option.map_none, Bool.false_eq_true, Bool.not_true, Bool.not_false, decide_true, decide_false, decide_eq_true_eq, beq_self_eq_true, ev_iSq, ev_itS1, ev_itS2, ev_itS3, ev_itS4, ev_iEn, ev_enS1, ev_enS2, ev_iZp, ev_zpS1, ev_zpS2, ev_Ch, ev_Sl, ev_O0, ev_O1, ev_iO, ev_slT, ev_slL, ev_Rg, ev_Rg3, ev_Ls, ev_lsT, ev_lsL, ev_Isi, ev_Isi2, ev_Rev, ev_revT, ev_Wk, ev_wkN, ev_wkT, ev_tupN, ev_CntT, ev_ctT, ev_IxT, ev_ixT', ev_IxL, ev_ixL', ev_Cnt, ev_ctL, ev_Dic, ev_dg, ev_Sub, ev_Ext, ev_trI, ev_trT, ev_trL, ev_MmD, eq_self, ev_IsE, ev_CallH, ev_unN, ev_unR, ev_TryA, ev_Try, ev_exN, ev_exR, ev_exE, ev_tyN, ev_tyR, ev_tyE, ev_Raise, ev_noxN, ev_noxR, ev_Trg, ev_Cat]) (by rw [List.length_map]; omega)]
      rw [lc_fltD (P := fun p => !wh p 0 14) (b.pw.map D.int) fun p hp => ⟨by
        obtain ⟨x, hx, rfl⟩ := List.mem_map.mp hp
        have : F_law_whole [.int x, .int 0, .int 14] = .ok (.bl (wh (.int x) 0 14)) := F_is_whole_eq x 0 14
        simp only [ev_C, ev_Var, ev_Bor, ev_Nl, ev_Bin, ev_Tup, ev_L, ev_Fn, ev_Call, ev_nil, ev_cons, ev_If, ev_And, ev_Or, ev_Not, ev_cAnd, ev_cOr, ev_cNot, ev_cB, ev_cTr, ev_toB, ev_IsN, ev_NotN, ev_isN_non, ev_isN_int, ev_isN_str, ev_isN_tup, ev_isN_bl, ev_MulL, ev_MulR, ev_DivC, ev_ModC, ev_Neg, ev_addI, ev_subI, ev_ltI, ev_leI, ev_gtI, ev_geI, ev_eqI, ev_neI, ev_eqS, ev_neS, ev_eqN, ev_neN, ev_eqNI, ev_neNI, ev_eqIN, ev_neIN, ev_eqB, ev_neB, ev_isB, ev_notB, ev_absI, ev_min2, ev_max2, ev_lenT, ev_lenL, ev_lenS, ev_tupL, ev_tupT, ev_intI, ev_intB, ev_ixT, ev_ixL, ev_ixS, at0, at1, at2, at3, atM1, ev_seq, ev_set, ev_own, ev_ret, ev_drop, ev_sIf, ev_for, ev_frz, ev_asg, ev_par2, ev_par3, ev_mVal, ev_mOwn, ev_app, ev_setv, ev_sets0, ev_sets1, ev_stv, ev_bnm, ev_btp, ev_bl0, ev_bl1, ev_R1, ev_R2, ev_iL, ev_iT, ev_itL, ev_itT, ev_forNil, ev_nolI, ev_nolN, ev_nolS, ev_nolB, ev_nolT, ev_nolL0, ev_nolL1, ev_cTrue, ev_wipe, Rz.bind_ok, Rz.bind_exc, Rz.bind_bad, Rz.ofO_some, Rz.ofO_none, onR_ok, onR_exc, onR_bad, onO_some, onO_none, List.getElem?_cons_zero, List.getElem?_cons_succ, ite_true, ite_false, if_true, if_false, reduceIte, Nat.reduceEqDiff, reduceCtorEq, Option.map_some, Option.bind_some, List.cons_append, List.nil_append, Option.map_none, Bool.false_eq_true, Bool.not_true, Bool.not_false, decide_true, decide_false, decide_eq_true_eq, beq_self_eq_true, ev_iSq, ev_itS1, ev_itS2, ev_itS3, ev_itS4, ev_iEn, ev_enS1, ev_enS2, ev_iZp, ev_zpS1, ev_zpS2, ev_Ch, ev_Sl, ev_O0, ev_O1, ev_iO, ev_slT, ev_slL, ev_Rg, ev_Rg3, ev_Ls, ev_lsT, ev_lsL, ev_Isi, ev_Isi2, ev_Rev, ev_revT, ev_Wk, ev_wkN, ev_wkT, ev_tupN, ev_CntT, ev_ctT, ev_IxT, ev_ixT', ev_IxL, ev_ixL', ev_Cnt, ev_ctL, ev_Dic, ev_dg, ev_Sub, ev_Ext, ev_trI, ev_trT, ev_trL, ev_MmD, eq_self, ev_IsE, ev_CallH, ev_unN, ev_unR, ev_TryA, ev_Try, ev_exN, ev_exR, ev_exE, ev_tyN, ev_tyR, ev_tyE, ev_Raise, ev_noxN, ev_noxR, ev_Trg, ev_Cat, this], by simp only [ev_C, ev_Var, ev_Bor, ev_Nl, ev_Bin, ev_Tup, ev_L, ev_Fn, ev_Call, ev_nil, ev_cons, ev_If, ev_And, ev_Or, ev_Not, ev_cAnd, ev_cOr, ev_cNot, ev_cB, ev_cTr, ev_toB, ev_IsN, ev_NotN, ev_isN_non, ev_isN_int, ev_isN_str, ev_isN_tup, ev_isN_bl, ev_MulL, ev_MulR, ev_DivC, ev_ModC, ev_Neg, ev_addI, ev_subI, ev_ltI, ev_leI, ev_gtI, ev_geI, ev_eqI, ev_neI, ev_eqS, ev_neS, ev_eqN, ev_neN, ev_eqNI, ev_neNI, ev_eqIN, ev_neIN, ev_eqB, ev_neB, ev_isB, ev_notB, ev_absI, ev_min2, ev_max2, ev_lenT, ev_lenL, ev_lenS, ev_tupL, ev_tupT, ev_intI, ev_intB, ev_ixT, ev_ixL, ev_ixS, at0, at1, at2, at3, atM1, ev_seq, ev_set, ev_own, ev_ret, ev_drop, ev_sIf, ev_for, ev_frz, ev_asg, ev_par2, ev_par3, ev_mVal, ev_mOwn, ev_app, ev_setv, ev_sets0, ev_sets1, ev_stv, ev_bnm, ev_btp, ev_bl0, ev_bl1, ev_R1, ev_R2, ev_iL, ev_iT, ev_itL, ev_itT, ev_forNil, ev_nolI, ev_nolN, ev_nolS, ev_nolB, ev_nolT, ev_nolL0, ev_nolL1, ev_cTrue, ev_wipe, Rz.bind_ok, Rz.bind_exc, Rz.bind_bad, Rz.ofO_some, Rz.ofO_none, onR_ok, onR_exc, onR_bad, onO_some, onO_none, List.getElem?_cons_zero, List.getElem?_cons_succ, ite_true, ite_false, if_true, if_false, reduceIte, Nat.reduceEqDiff, reduceCtorEq, Option.map_some, Option.bind_some, List.cons_append, List.nil_append, Option.map_none, Bool.false_eq_true, Bool.not_true, Bool.not_false, decide_true, decide_false, decide_eq_true_eq, beq_self_eq_true, ev_iSq, ev_itS1, ev_itS2, ev_itS3, ev_itS4, ev_iEn, ev_enS1, ev_enS2, ev_iZp, ev_zpS1, ev_zpS2, ev_Ch, ev_Sl, ev_O0, ev_O1, ev_iO, ev_slT, ev_slL, ev_Rg, ev_Rg3, ev_Ls, ev_lsT, ev_lsL, ev_Isi, ev_Isi2, ev_Rev, ev_revT, ev_Wk, ev_wkN, ev_wkT, ev_tupN, ev_CntT, ev_ctT, ev_IxT, ev_ixT', ev_IxL, ev_ixL', ev_Cnt, ev_ctL, ev_Dic, ev_dg, ev_Sub, ev_Ext, ev_trI, ev_trT, ev_trL, ev_MmD, eq_self, ev_IsE, ev_CallH, ev_unN, ev_unR, ev_TryA, ev_Try, ev_exN, ev_exR, ev_exE, ev_tyN, ev_tyR, ev_tyE, ev_Raise, ev_noxN, ev_noxR, ev_Trg, ev_Cat]⟩]
      have hne : ((b.pw.map D.int).filter fun p => !wh p 0 14) = [] := List.filter_eq_nil_iff.mpr fun p hp => by
        obtain ⟨x, hx, rfl⟩ := List.mem_map.mp hp
        have := h.pr x hx
        simp [wh, this]
      rw [hne]
      have n0 := neL (ds := []) rfl
      simp only [ev_C, ev_Var, ev_Bor, ev_Nl, ev_Bin, ev_Tup, ev_L, ev_Fn, ev_Call, ev_nil, ev_cons, ev_If, ev_And, ev_Or, ev_Not, ev_cAnd, ev_cOr, ev_cNot, ev_cB, ev_cTr, ev_toB, ev_IsN, ev_NotN, ev_isN_non, ev_isN_int, ev_isN_str, ev_isN_tup, ev_isN_bl, ev_MulL, ev_MulR, ev_DivC, ev_ModC, ev_Neg, ev_addI, ev_subI, ev_ltI, ev_leI, ev_gtI, ev_geI, ev_eqI, ev_neI, ev_eqS, ev_neS, ev_eqN, ev_neN, ev_eqNI, ev_neNI, ev_eqIN, ev_neIN, ev_eqB, ev_neB, ev_isB, ev_notB, ev_absI, ev_min2, ev_max2, ev_lenT, ev_lenL, ev_lenS, ev_tupL, ev_tupT, ev_intI, ev_intB, ev_ixT, ev_ixL, ev_ixS, at0, at1, at2, at3, atM1, ev_seq, ev_set, ev_own, ev_ret, ev_drop, ev_sIf, ev_for, ev_frz, ev_asg, ev_par2, ev_par3, ev_mVal, ev_mOwn, ev_app, ev_setv, ev_sets0, ev_sets1, ev_stv, ev_bnm, ev_btp, ev_bl0, ev_bl1, ev_R1, ev_R2, ev_iL, ev_iT, ev_itL, ev_itT, ev_forNil, ev_nolI, ev_nolN, ev_nolS, ev_nolB, ev_nolT, ev_nolL0, ev_nolL1, ev_cTrue, ev_wipe, Rz.bind_ok, Rz.bind_exc, Rz.bind_bad, Rz.ofO_some, Rz.ofO_none, onR_ok, onR_exc, onR_bad, onO_some, onO_none, List.getElem?_cons_zero, List.getElem?_cons_succ, ite_true, ite_false, if_true, if_false, reduceIte, Nat.reduceEqDiff, reduceCtorEq, Option.map_some, Option.bind_some, List.cons_append, List.nil_append, Option.map_none, Bool.false_eq_true, Bool.not_true, Bool.not_false, decide_true, decide_false, decide_eq_true_eq, beq_self_eq_true, ev_iSq, ev_itS1, ev_itS2, ev_itS3, ev_itS4, ev_iEn, ev_enS1, ev_enS2, ev_iZp, ev_zpS1, ev_zpS2, ev_Ch, ev_Sl, ev_O0, ev_O1, ev_iO, ev_slT, ev_slL, ev_Rg, ev_Rg3, ev_Ls, ev_lsT, ev_lsL, ev_Isi, ev_Isi2, ev_Rev, ev_revT, ev_Wk, ev_wkN, ev_wkT, ev_tupN, ev_CntT, ev_ctT, ev_IxT, ev_ixT', ev_IxL, ev_ixL', ev_Cnt, ev_ctL, ev_Dic, ev_dg, ev_Sub, ev_Ext, ev_trI, ev_trT, ev_trL, ev_MmD, eq_self, ev_IsE, ev_CallH, ev_unN, ev_unR, ev_TryA, ev_Try, ev_exN, ev_exR, ev_exE, ev_tyN, ev_tyR, ev_tyE, ev_Raise, ev_noxN, ev_noxR, ev_Trg, ev_Cat, n0]
    · exact hk _ (by simp only [ev_C, ev_Var, ev_Bor, ev_Nl, ev_Bin, ev_Tup, ev_L, ev_Fn, ev_Call, ev_nil, ev_cons, ev_If, ev_And, ev_Or, ev_Not, ev_cAnd, ev_cOr, ev_cNot, ev_cB, ev_cTr, ev_toB, ev_IsN, ev_NotN, ev_isN_non, ev_isN_int, ev_isN_str, ev_isN_tup, ev_isN_bl, ev_MulL, ev_MulR, ev_DivC, ev_ModC, ev_Neg, ev_addI, ev_subI, ev_ltI, ev_leI, ev_gtI, ev_geI, ev_eqI, ev_neI, ev_eqS, ev_neS, ev_eqN, ev_neN, ev_eqNI, ev_neNI, ev_eqIN, ev_neIN, ev_eqB, ev_neB, ev_isB, ev_notB, ev_absI, ev_min2, ev_max2, ev_lenT, ev_lenL, ev_lenS, ev_tupL, ev_tupT, ev_intI, ev_intB, ev_ixT, ev_ixL, ev_ixS, at0, at1, at2, at3, atM1, ev_seq, ev_set, ev_own, ev_ret, ev_drop, ev_sIf, ev_for, ev_frz, ev_asg, ev_par2, ev_par3, ev_mVal, ev_mOwn, ev_app, ev_setv, ev_sets0, ev_sets1, ev_stv, ev_bnm, ev_btp, ev_bl0, ev_bl1, ev_R1, ev_R2, ev_iL, ev_iT, ev_itL, ev_itT, ev_forNil, ev_nolI, ev_nolN, ev_nolS, ev_nolB, ev_nolT, ev_nolL0, ev_nolL1, ev_cTrue, ev_wipe, Rz.bind_ok, Rz.bind_exc, Rz.bind_bad, Rz.ofO_some, Rz.ofO_none, onR_ok, onR_exc, onR_bad, onO_some, onO_none, List.getElem?_cons_zero, List.getElem?_cons_succ, ite_true, ite_false, if_true, if_false, reduceIte, Nat.reduceEqDiff, reduceCtorEq, Option.map_some, Option.bind_some, List.cons_append, List.nil_append, Option.map_none, Bool.false_eq_true, Bool.not_true, Bool.not_false, decide_true, decide_false, decide_eq_true_eq, beq_self_eq_true, ev_iSq, ev_itS1, ev_itS2, ev_itS3, ev_itS4, ev_iEn, ev_enS1, ev_enS2, ev_iZp, ev_zpS1, ev_zpS2, ev_Ch, ev_Sl, ev_O0, ev_O1, ev_iO, ev_slT, ev_slL, ev_Rg, ev_Rg3, ev_Ls, ev_lsT, ev_lsL, ev_Isi, ev_Isi2, ev_Rev, ev_revT, ev_Wk, ev_wkN, ev_wkT, ev_tupN, ev_CntT, ev_ctT, ev_IxT, ev_ixT', ev_IxL, ev_ixL', ev_Cnt, ev_ctL, ev_Dic, ev_dg, ev_Sub, ev_Ext, ev_trI, ev_trT, ev_trL, ev_MmD, eq_self, ev_IsE, ev_CallH, ev_unN, ev_unR, ev_TryA, ev_Try, ev_exN, ev_exR, ev_exE, ev_tyN, ev_tyR, ev_tyE, ev_Raise, ev_noxN, ev_noxR, ev_Trg, ev_Cat]) (by simp only [ev_C, ev_Var, ev_Bor, ev_Nl, ev_Bin, ev_Tup, ev_L, ev_Fn, ev_Call, ev_nil, ev_cons, ev_If, ev_And, ev_Or, ev_Not, ev_cAnd, ev_cOr, ev_cNot, ev_cB, ev_cTr, ev_toB, ev_IsN, ev_NotN, ev_isN_non, ev_isN_int, ev_isN_str, ev_isN_tup, ev_isN_bl, ev_MulL, ev_MulR, ev_DivC, ev_ModC, ev_Neg, ev_addI, ev_subI, ev_ltI, ev_leI, ev_gtI, ev_geI, ev_eqI, ev_neI, ev_eqS, ev_neS, ev_eqN, ev_neN, ev_eqNI, ev_neNI, ev_eqIN, ev_neIN, ev_eqB, ev_neB, ev_isB, ev_notB, ev_absI, ev_min2, ev_max2, ev_lenT, ev_lenL, ev_lenS, ev_tupL, ev_tupT, ev_intI, ev_intB, ev_ixT, ev_ixL, ev_ixS, at0, at1, at2, at3, atM1, ev_seq, ev_set, ev_own, ev_ret, ev_drop, ev_sIf, ev_for, ev_frz, ev_asg, ev_par2, ev_par3, ev_mVal, ev_mOwn, ev_app, ev_setv, ev_sets0, ev_sets1, ev_stv, ev_bnm, ev_btp, ev_bl0, ev_bl1, ev_R1, ev_R2, ev_iL, ev_iT, ev_itL, ev_itT, ev_forNil, ev_nolI, ev_nolN, ev_nolS, ev_nolB, ev_nolT, ev_nolL0, ev_nolL1, ev_cTrue, ev_wipe, Rz.bind_ok, Rz.bind_exc, Rz.bind_bad, Rz.ofO_some, Rz.ofO_none, onR_ok, onR_exc, onR_bad, onO_some, onO_none, List.getElem?_cons_zero, List.getElem?_cons_succ, ite_true, ite_false, if_true, if_false, reduceIte, Nat.reduceEqDiff, reduceCtorEq, Option.map_some, Option.bind_some, List.cons_append, List.nil_append, Option.map_none, Bool.false_eq_true, Bool.not_true, Bool.not_false, decide_true, decide_false, decide_eq_true_eq, beq_self_eq_true, ev_iSq, ev_itS1, ev_itS2, ev_itS3, ev_itS4, ev_iEn, ev_enS1, ev_enS2, ev_iZp, ev_zpS1, ev_zpS2, ev_Ch, ev_Sl, ev_O0, ev_O1, ev_iO, ev_slT, ev_slL, ev_Rg, ev_Rg3, ev_Ls, ev_lsT, ev_lsL, ev_Isi, ev_Isi2, ev_Rev, ev_revT, ev_Wk, ev_wkN, ev_wkT, ev_tupN, ev_CntT, ev_ctT, ev_IxT, ev_ixT', ev_IxL, ev_ixL', ev_Cnt, ev_ctL, ev_Dic, ev_dg, ev_Sub, ev_Ext, ev_trI, ev_trT, ev_trL, ev_MmD, eq_self, ev_IsE, ev_CallH, ev_unN, ev_unR, ev_TryA, ev_Try, ev_exN, ev_exR, ev_exE, ev_tyN, ev_tyR, ev_tyE, ev_Raise, ev_noxN, ev_noxR, ev_Trg, ev_Cat])
  have rg : ∀ e : En, e.v 1 = .val (.tup (b.pw.map D.int)) → iR1 (eBin subD (eFn lenD [(eVar 1)]) (eC (.int 1))) e = .ok (rngD ((0 : Nat) : Int) (b.pw.length - 1)) := by
    intro e h3
    simp only [ev_C, ev_Var, ev_Bor, ev_Nl, ev_Bin, ev_Tup, ev_L, ev_Fn, ev_Call, ev_nil, ev_cons, ev_If, ev_And, ev_Or, ev_Not, ev_cAnd, ev_cOr, ev_cNot, ev_cB, ev_cTr, ev_toB, ev_IsN, ev_NotN, ev_isN_non, ev_isN_int, ev_isN_str, ev_isN_tup, ev_isN_bl, ev_MulL, ev_MulR, ev_DivC, ev_ModC, ev_Neg, ev_addI, ev_subI, ev_ltI, ev_leI, ev_gtI, ev_geI, ev_eqI, ev_neI, ev_eqS, ev_neS, ev_eqN, ev_neN, ev_eqNI, ev_neNI, ev_eqIN, ev_neIN, ev_eqB, ev_neB, ev_isB, ev_notB, ev_absI, ev_min2, ev_max2, ev_lenT, ev_lenL, ev_lenS, ev_tupL, ev_tupT, ev_intI, ev_intB, ev_ixT, ev_ixL, ev_ixS, at0, at1, at2, at3, atM1, ev_seq, ev_set, ev_own, ev_ret, ev_drop, ev_sIf, ev_for, ev_frz, ev_asg, ev_par2, ev_par3, ev_mVal, ev_mOwn, ev_app, ev_setv, ev_sets0, ev_sets1, ev_stv, ev_bnm, ev_btp, ev_bl0, ev_bl1, ev_R1, ev_R2, ev_iL, ev_iT, ev_itL, ev_itT, ev_forNil, ev_nolI, ev_nolN, ev_nolS, ev_nolB, ev_nolT, ev_nolL0, ev_nolL1, ev_cTrue, ev_wipe, Rz.bind_ok, Rz.bind_exc, Rz.bind_bad, Rz.ofO_some, Rz.ofO_none, onR_ok, onR_exc, onR_bad, onO_some, onO_none, List.getElem?_cons_zero, List.getElem?_cons_succ, ite_true, ite_false, if_true, if_false, reduceIte, Nat.reduceEqDiff, reduceCtorEq, Option.map_some, Option.bind_some, List.cons_append, List.nil_append, Option.map_none, Bool.false_eq_true, Bool.not_true, Bool.not_false, decide_true, decide_false, decide_eq_true_eq, beq_self_eq_true, ev_iSq, ev_itS1, ev_itS2, ev_itS3, ev_itS4, ev_iEn, ev_enS1, ev_enS2, ev_iZp, ev_zpS1, ev_zpS2, ev_Ch, ev_Sl, ev_O0, ev_O1, ev_iO, ev_slT, ev_slL, ev_Rg, ev_Rg3, ev_Ls, ev_lsT, ev_lsL, ev_Isi, ev_Isi2, ev_Rev, ev_revT, ev_Wk, ev_wkN, ev_wkT, ev_tupN, ev_CntT, ev_ctT, ev_IxT, ev_ixT', ev_IxL, ev_ixL', ev_Cnt, ev_ctL, ev_Dic, ev_dg, ev_Sub, ev_Ext, ev_trI, ev_trT, ev_trL, ev_MmD, eq_self, ev_IsE, ev_CallH, ev_unN, ev_unR, ev_TryA, ev_Try, ev_exN, ev_exR, ev_exE, ev_tyN, ev_tyR, ev_tyE, ev_Raise, ev_noxN, ev_noxR, ev_Trg, ev_Cat, h3, List.length_map]
    rw [rg1_ok (by omega) (by omega)]
    congr 2
    omega
  by_cases g : ∀ i, i + 1 < b.pw.length → b.gd i
  · refine ⟨true, key fun e h1 h2 => ?_, fun _ => ⟨h.f1, h.f2, h.l1, h.l2, n1, h.n2, h.pr, fun i hi => (g i hi).1, fun i hi => (g i hi).2, h.w1, h.w2⟩, fun _ => rfl⟩
    rcases lib_loop h (b.pw.length - 1) 0 e (by omega) h1 h2 with ⟨e', a1, _⟩ | ⟨e', a1, i, hi, ng⟩
    · exact Rt.for (rg e h2) a1 (Rt.ret (by simp only [ev_C, ev_Var, ev_Bor, ev_Nl, ev_Bin, ev_Tup, ev_L, ev_Fn, ev_Call, ev_nil, ev_cons, ev_If, ev_And, ev_Or, ev_Not, ev_cAnd, ev_cOr, ev_cNot, ev_cB, ev_cTr, ev_toB, ev_IsN, ev_NotN, ev_isN_non, ev_isN_int, ev_isN_str, ev_isN_tup, ev_isN_bl, ev_MulL, ev_MulR, ev_DivC, ev_ModC, ev_Neg, ev_addI, ev_subI, ev_ltI, ev_leI, ev_gtI, ev_geI, ev_eqI, ev_neI, ev_eqS, ev_neS, ev_eqN, ev_neN, ev_eqNI, ev_neNI, ev_eqIN, ev_neIN, ev_eqB, ev_neB, ev_isB, ev_notB, ev_absI, ev_min2, ev_max2, ev_lenT, ev_lenL, ev_lenS, ev_tupL, ev_tupT, ev_intI, ev_intB, ev_ixT, ev_ixL, ev_ixS, at0, at1, at2, at3, atM1, ev_seq, ev_set, ev_own, ev_ret, ev_drop, ev_sIf, ev_for, ev_frz, ev_asg, ev_par2, ev_par3, ev_mVal, ev_mOwn, ev_app, ev_setv, ev_sets0, ev_sets1, ev_stv, ev_bnm, ev_btp, ev_bl0, ev_bl1, ev_R1, ev_R2, ev_iL, ev_iT, ev_itL, ev_itT, ev_forNil, ev_nolI, ev_nolN, ev_nolS, ev_nolB, ev_nolT, ev_nolL0, ev_nolL1, ev_cTrue, ev_wipe, Rz.bind_ok, Rz.bind_exc, Rz.bind_bad, Rz.ofO_some, Rz.ofO_none, onR_ok, onR_exc, onR_bad, onO_some, onO_none, List.getElem?_cons_zero, List.getElem?_cons_succ, ite_true, ite_false, if_true, if_false, reduceIte, Nat.reduceEqDiff, reduceCtorEq, Option.map_some, Option.bind_some, List.cons_append, List.nil_append, Option.map_none, Bool.false_eq_true, Bool.not_true, Bool.not_false, decide_true, decide_false, decide_eq_true_eq, beq_self_eq_true, ev_iSq, ev_itS1, ev_itS2, ev_itS3, ev_itS4, ev_iEn, ev_enS1, ev_enS2, ev_iZp, ev_zpS1, ev_zpS2, ev_Ch, ev_Sl, ev_O0, ev_O1, ev_iO, ev_slT, ev_slL, ev_Rg, ev_Rg3, ev_Ls, ev_lsT, ev_lsL, ev_Isi, ev_Isi2, ev_Rev, ev_revT, ev_Wk, ev_wkN, ev_wkT, ev_tupN, ev_CntT, ev_ctT, ev_IxT, ev_ixT', ev_IxL, ev_ixL', ev_Cnt, ev_ctL, ev_Dic, ev_dg, ev_Sub, ev_Ext, ev_trI, ev_trT, ev_trL, ev_MmD, eq_self, ev_IsE, ev_CallH, ev_unN, ev_unR, ev_TryA, ev_Try, ev_exN, ev_exR, ev_exE, ev_tyN, ev_tyR, ev_tyE, ev_Raise, ev_noxN, ev_noxR, ev_Trg, ev_Cat]))
    · exact absurd (g i hi) ng
  · refine ⟨false, key fun e h1 h2 => ?_, ⟨fun z => Bool.noConfusion z, fun ok => absurd (fun i hi => ⟨ok.ri i hi, ok.ch i hi⟩) g⟩⟩
    rcases lib_loop h (b.pw.length - 1) 0 e (by omega) h1 h2 with ⟨e', a1, a2⟩ | ⟨e', a1, _⟩
    · exact absurd (fun i hi => a2 i (by omega) hi) g
    · refine Rt.now ⟨e', ?_⟩
      unfold sFor
      rw [rg e h2]
      exact a1
theorem books_eq {k : Nat} {d : D} (hk : k ≤ 60) (h : od k d = true) : ∃ c : Bool, BothF d c := by
  rcases not_tup h with ⟨ds, rfl, hds, hl⟩ | ht
  case inr => exact ⟨false, bf_nt ht⟩
  by_cases h4 : ds.length = 4
  case neg => exact ⟨false, bf_len h4⟩
  match ds, h4, hds with
  | [a, b, c, w], _, hds =>
    have w0 := whole1 (hds a (by simp)) 9 9999
    have hc := hds c (by simp)
    cases q1 : wh a 9 9999 with
    | false => rw [q1] at w0; exact ⟨false, bf_0 w0⟩
    | true =>
      rw [q1] at w0
      obtain ⟨f, rfl, f1, f2⟩ := wh_int q1
      have w1 := whole1 (hds b (by simp)) 0 (f - 1)
      have w2 := whole1 (hds w (by simp)) 0 5
      by_cases qq : wh b 0 (f - 1) = true ∧ wh w 0 5 = true
      · rw [qq.1] at w1
        rw [qq.2] at w2
        rcases not_tup hc with ⟨ps, rfl, hps, hpl⟩ | htc
        · by_cases n : 1 ≤ ps.length ∧ ps.length ≤ 6
          · by_cases al : ∀ p ∈ ps, wh p 0 14 = true
            · obtain ⟨low, rfl, l1, l2⟩ := wh_int qq.1
              obtain ⟨wt, rfl, v1, v2⟩ := wh_int qq.2
              obtain ⟨pw, rfl, hp⟩ := ints_of al
              rw [List.length_map] at n
              have P : (Book.mk f low pw wt).Pre := ⟨f1, f2, l1, by show low < f; omega, n.2, hp, v1, v2⟩
              obtain ⟨c1, x1, y1⟩ := F_is_book_eq P
              obtain ⟨c2, x2, y2⟩ := lib_book P n.1
              have : c1 = c2 := by rw [Bool.eq_iff_iff, y1, y2]
              subst this
              exact ⟨c1, x1, x2⟩
            · exact ⟨false, bf_4 w0 w1 w2 (k := k - 1 - 1) (by omega) hps n al⟩
          · exact ⟨false, bf_3 w0 w1 w2 n⟩
        · exact ⟨false, bf_2 w0 w1 w2 htc⟩
      · refine ⟨false, bf_1 w0 w1 w2 ?_⟩
        cases z1 : wh b 0 (f - 1) <;> cases z2 : wh w 0 5 <;> simp_all
/-! ### is_state -/
def BothS (b : Book) (d : D) (c : Bool) : Prop := F_is_state [b.d, d] = .ok (.bl c) ∧ F_law_is_state [b.d, d] = .ok (.bl c)
theorem len3 (a b c : D) : ((([a, b, c] : List D).length : Nat) : Int) = 3 := rfl
section
variable (b : Book)
theorem F_last_of_eq : F_last_of [b.d] = .ok (.int (b.pw.length - 1)) := fnD_of (Rt.ret (by simp only [ev_C, ev_Var, ev_Bor, ev_Nl, ev_Bin, ev_Tup, ev_L, ev_Fn, ev_Call, ev_nil, ev_cons, ev_If, ev_And, ev_Or, ev_Not, ev_cAnd, ev_cOr, ev_cNot, ev_cB, ev_cTr, ev_toB, ev_IsN, ev_NotN, ev_isN_non, ev_isN_int, ev_isN_str, ev_isN_tup, ev_isN_bl, ev_MulL, ev_MulR, ev_DivC, ev_ModC, ev_Neg, ev_addI, ev_subI, ev_ltI, ev_leI, ev_gtI, ev_geI, ev_eqI, ev_neI, ev_eqS, ev_neS, ev_eqN, ev_neN, ev_eqNI, ev_neNI, ev_eqIN, ev_neIN, ev_eqB, ev_neB, ev_isB, ev_notB, ev_absI, ev_min2, ev_max2, ev_lenT, ev_lenL, ev_lenS, ev_tupL, ev_tupT, ev_intI, ev_intB, ev_ixT, ev_ixL, ev_ixS, at0, at1, at2, at3, atM1, ev_seq, ev_set, ev_own, ev_ret, ev_drop, ev_sIf, ev_for, ev_frz, ev_asg, ev_par2, ev_par3, ev_mVal, ev_mOwn, ev_app, ev_setv, ev_sets0, ev_sets1, ev_stv, ev_bnm, ev_btp, ev_bl0, ev_bl1, ev_R1, ev_R2, ev_iL, ev_iT, ev_itL, ev_itT, ev_forNil, ev_nolI, ev_nolN, ev_nolS, ev_nolB, ev_nolT, ev_nolL0, ev_nolL1, ev_cTrue, ev_wipe, Rz.bind_ok, Rz.bind_exc, Rz.bind_bad, Rz.ofO_some, Rz.ofO_none, onR_ok, onR_exc, onR_bad, onO_some, onO_none, List.getElem?_cons_zero, List.getElem?_cons_succ, ite_true, ite_false, if_true, if_false, reduceIte, Nat.reduceEqDiff, reduceCtorEq, Option.map_some, Option.bind_some, List.cons_append, List.nil_append, Option.map_none, Bool.false_eq_true, Bool.not_true, Bool.not_false, decide_true, decide_false, decide_eq_true_eq, beq_self_eq_true, ev_iSq, ev_itS1, ev_itS2, ev_itS3, ev_itS4, ev_iEn, ev_enS1, ev_enS2, ev_iZp, ev_zpS1, ev_zpS2, ev_Ch, ev_Sl, ev_O0, ev_O1, ev_iO, ev_slT, ev_slL, ev_Rg, ev_Rg3, ev_Ls, ev_lsT, ev_lsL, ev_Isi, ev_Isi2, ev_Rev, ev_revT, ev_Wk, ev_wkN, ev_wkT, ev_tupN, ev_CntT, ev_ctT, ev_IxT, ev_ixT', ev_IxL, ev_ixL', ev_Cnt, ev_ctL, ev_Dic, ev_dg, ev_Sub, ev_Ext, ev_trI, ev_trT, ev_trL, ev_MmD, eq_self, ev_IsE, ev_CallH, ev_unN, ev_unR, ev_TryA, ev_Try, ev_exN, ev_exR, ev_exE, ev_tyN, ev_tyR, ev_tyE, ev_Raise, ev_noxN, ev_noxR, ev_Trg, ev_Cat, bd2, List.length_map]))
theorem bs_nt {d : D} (h : isiG "tuple" d = some false) : BothS b d false :=
  ⟨fnD_of (Rt.ift (by simp only [ev_C, ev_Var, ev_Bor, ev_Nl, ev_Bin, ev_Tup, ev_L, ev_Fn, ev_Call, ev_nil, ev_cons, ev_If, ev_And, ev_Or, ev_Not, ev_cAnd, ev_cOr, ev_cNot, ev_cB, ev_cTr, ev_toB, ev_IsN, ev_NotN, ev_isN_non, ev_isN_int, ev_isN_str, ev_isN_tup, ev_isN_bl, ev_MulL, ev_MulR, ev_DivC, ev_ModC, ev_Neg, ev_addI, ev_subI, ev_ltI, ev_leI, ev_gtI, ev_geI, ev_eqI, ev_neI, ev_eqS, ev_neS, ev_eqN, ev_neN, ev_eqNI, ev_neNI, ev_eqIN, ev_neIN, ev_eqB, ev_neB, ev_isB, ev_notB, ev_absI, ev_min2, ev_max2, ev_lenT, ev_lenL, ev_lenS, ev_tupL, ev_tupT, ev_intI, ev_intB, ev_ixT, ev_ixL, ev_ixS, at0, at1, at2, at3, atM1, ev_seq, ev_set, ev_own, ev_ret, ev_drop, ev_sIf, ev_for, ev_frz, ev_asg, ev_par2, ev_par3, ev_mVal, ev_mOwn, ev_app, ev_setv, ev_sets0, ev_sets1, ev_stv, ev_bnm, ev_btp, ev_bl0, ev_bl1, ev_R1, ev_R2, ev_iL, ev_iT, ev_itL, ev_itT, ev_forNil, ev_nolI, ev_nolN, ev_nolS, ev_nolB, ev_nolT, ev_nolL0, ev_nolL1, ev_cTrue, ev_wipe, Rz.bind_ok, Rz.bind_exc, Rz.bind_bad, Rz.ofO_some, Rz.ofO_none, onR_ok, onR_exc, onR_bad, onO_some, onO_none, List.getElem?_cons_zero, List.getElem?_cons_succ, ite_true, ite_false, if_true, if_false, reduceIte, Nat.reduceEqDiff, reduceCtorEq, Option.map_some, Option.bind_some, List.cons_append, List.nil_append, Option.map_none, Bool.false_eq_true, Bool.not_true, Bool.not_false, decide_true, decide_false, decide_eq_true_eq, beq_self_eq_true, ev_iSq, ev_itS1, ev_itS2, ev_itS3, ev_itS4, ev_iEn, ev_enS1, ev_enS2, ev_iZp, ev_zpS1, ev_zpS2, ev_Ch, ev_Sl, ev_O0, ev_O1, ev_iO, ev_slT, ev_slL, ev_Rg, ev_Rg3, ev_Ls, ev_lsT, ev_lsL, ev_Isi, ev_Isi2, ev_Rev, ev_revT, ev_Wk, ev_wkN, ev_wkT, ev_tupN, ev_CntT, ev_ctT, ev_IxT, ev_ixT', ev_IxL, ev_ixL', ev_Cnt, ev_ctL, ev_Dic, ev_dg, ev_Sub, ev_Ext, ev_trI, ev_trT, ev_trL, ev_MmD, eq_self, ev_IsE, ev_CallH, ev_unN, ev_unR, ev_TryA, ev_Try, ev_exN, ev_exR, ev_exE, ev_tyN, ev_tyR, ev_tyE, ev_Raise, ev_noxN, ev_noxR, ev_Trg, ev_Cat, h]) (Rt.ret (by simp only [ev_C, ev_Var, ev_Bor, ev_Nl, ev_Bin, ev_Tup, ev_L, ev_Fn, ev_Call, ev_nil, ev_cons, ev_If, ev_And, ev_Or, ev_Not, ev_cAnd, ev_cOr, ev_cNot, ev_cB, ev_cTr, ev_toB, ev_IsN, ev_NotN, ev_isN_non, ev_isN_int, ev_isN_str, ev_isN_tup, ev_isN_bl, ev_MulL, ev_MulR, ev_DivC, ev_ModC, ev_Neg, ev_addI, ev_subI, ev_ltI, ev_leI, ev_gtI, ev_geI, ev_eqI, ev_neI, ev_eqS, ev_neS, ev_eqN, ev_neN, ev_eqNI, ev_neNI, ev_eqIN, ev_neIN, ev_eqB, ev_neB, ev_isB, ev_notB, ev_absI, ev_min2, ev_max2, ev_lenT, ev_lenL, ev_lenS, ev_tupL, ev_tupT, ev_intI, ev_intB, ev_ixT, ev_ixL, ev_ixS, at0, at1, at2, at3, atM1, ev_seq, ev_set, ev_own, ev_ret, ev_drop, ev_sIf, ev_for, ev_frz, ev_asg, ev_par2, ev_par3, ev_mVal, ev_mOwn, ev_app, ev_setv, ev_sets0, ev_sets1, ev_stv, ev_bnm, ev_btp, ev_bl0, ev_bl1, ev_R1, ev_R2, ev_iL, ev_iT, ev_itL, ev_itT, ev_forNil, ev_nolI, ev_nolN, ev_nolS, ev_nolB, ev_nolT, ev_nolL0, ev_nolL1, ev_cTrue, ev_wipe, Rz.bind_ok, Rz.bind_exc, Rz.bind_bad, Rz.ofO_some, Rz.ofO_none, onR_ok, onR_exc, onR_bad, onO_some, onO_none, List.getElem?_cons_zero, List.getElem?_cons_succ, ite_true, ite_false, if_true, if_false, reduceIte, Nat.reduceEqDiff, reduceCtorEq, Option.map_some, Option.bind_some, List.cons_append, List.nil_append, Option.map_none, Bool.false_eq_true, Bool.not_true, Bool.not_false, decide_true, decide_false, decide_eq_true_eq, beq_self_eq_true, ev_iSq, ev_itS1, ev_itS2, ev_itS3, ev_itS4, ev_iEn, ev_enS1, ev_enS2, ev_iZp, ev_zpS1, ev_zpS2, ev_Ch, ev_Sl, ev_O0, ev_O1, ev_iO, ev_slT, ev_slL, ev_Rg, ev_Rg3, ev_Ls, ev_lsT, ev_lsL, ev_Isi, ev_Isi2, ev_Rev, ev_revT, ev_Wk, ev_wkN, ev_wkT, ev_tupN, ev_CntT, ev_ctT, ev_IxT, ev_ixT', ev_IxL, ev_ixL', ev_Cnt, ev_ctL, ev_Dic, ev_dg, ev_Sub, ev_Ext, ev_trI, ev_trT, ev_trL, ev_MmD, eq_self, ev_IsE, ev_CallH, ev_unN, ev_unR, ev_TryA, ev_Try, ev_exN, ev_exR, ev_exE, ev_tyN, ev_tyR, ev_tyE, ev_Raise, ev_noxN, ev_noxR, ev_Trg, ev_Cat]))), fnD_of (Rt.ift (by simp only [ev_C, ev_Var, ev_Bor, ev_Nl, ev_Bin, ev_Tup, ev_L, ev_Fn, ev_Call, ev_nil, ev_cons, ev_If, ev_And, ev_Or, ev_Not, ev_cAnd, ev_cOr, ev_cNot, ev_cB, ev_cTr, ev_toB, ev_IsN, ev_NotN, ev_isN_non, ev_isN_int, ev_isN_str, ev_isN_tup, ev_isN_bl, ev_MulL, ev_MulR, ev_DivC, ev_ModC, ev_Neg, ev_addI, ev_subI, ev_ltI, ev_leI, ev_gtI, ev_geI, ev_eqI, ev_neI, ev_eqS, ev_neS, ev_eqN, ev_neN, ev_eqNI, ev_neNI, ev_eqIN, ev_neIN, ev_eqB, ev_neB, ev_isB, ev_notB, ev_absI, ev_min2, ev_max2, ev_lenT, ev_lenL, ev_lenS, ev_tupL, ev_tupT, ev_intI, ev_intB, ev_ixT, ev_ixL, ev_ixS, at0, at1, at2, at3, atM1, ev_seq, ev_set, ev_own, ev_ret, ev_drop, ev_sIf, ev_for, ev_frz, ev_asg, ev_par2, ev_par3, ev_mVal, ev_mOwn, ev_app, ev_setv, ev_sets0, ev_sets1, ev_stv, ev_bnm, ev_btp, ev_bl0, ev_bl1, ev_R1, ev_R2, ev_iL, ev_iT, ev_itL, ev_itT, ev_forNil, ev_nolI, ev_nolN, ev_nolS, ev_nolB, ev_nolT, ev_nolL0, ev_nolL1, ev_cTrue, ev_wipe, Rz.bind_ok, Rz.bind_exc, Rz.bind_bad, Rz.ofO_some, Rz.ofO_none, onR_ok, onR_exc, onR_bad, onO_some, onO_none, List.getElem?_cons_zero, List.getElem?_cons_succ, ite_true, ite_false, if_true, if_false, reduceIte, Nat.reduceEqDiff, reduceCtorEq, Option.map_some, Option.bind_some, List.cons_append, List.nil_append, Option.map_none, Bool.false_eq_true, Bool.not_true, Bool.not_false, decide_true, decide_false, decide_eq_true_eq, beq_self_eq_true, ev_iSq, ev_itS1, ev_itS2, ev_itS3, ev_itS4, ev_iEn, ev_enS1, ev_enS2, ev_iZp, ev_zpS1, ev_zpS2, ev_Ch, ev_Sl, ev_O0, ev_O1, ev_iO, ev_slT, ev_slL, ev_Rg, ev_Rg3, ev_Ls, ev_lsT, ev_lsL, ev_Isi, ev_Isi2, ev_Rev, ev_revT, ev_Wk, ev_wkN, ev_wkT, ev_tupN, ev_CntT, ev_ctT, ev_IxT, ev_ixT', ev_IxL, ev_ixL', ev_Cnt, ev_ctL, ev_Dic, ev_dg, ev_Sub, ev_Ext, ev_trI, ev_trT, ev_trL, ev_MmD, eq_self, ev_IsE, ev_CallH, ev_unN, ev_unR, ev_TryA, ev_Try, ev_exN, ev_exR, ev_exE, ev_tyN, ev_tyR, ev_tyE, ev_Raise, ev_noxN, ev_noxR, ev_Trg, ev_Cat, h]) (Rt.ret (by simp only [ev_C, ev_Var, ev_Bor, ev_Nl, ev_Bin, ev_Tup, ev_L, ev_Fn, ev_Call, ev_nil, ev_cons, ev_If, ev_And, ev_Or, ev_Not, ev_cAnd, ev_cOr, ev_cNot, ev_cB, ev_cTr, ev_toB, ev_IsN, ev_NotN, ev_isN_non, ev_isN_int, ev_isN_str, ev_isN_tup, ev_isN_bl, ev_MulL, ev_MulR, ev_DivC, ev_ModC, ev_Neg, ev_addI, ev_subI, ev_ltI, ev_leI, ev_gtI, ev_geI, ev_eqI, ev_neI, ev_eqS, ev_neS, ev_eqN, ev_neN, ev_eqNI, ev_neNI, ev_eqIN, ev_neIN, ev_eqB, ev_neB, ev_isB, ev_notB, ev_absI, ev_min2, ev_max2, ev_lenT, ev_lenL, ev_lenS, ev_tupL, ev_tupT, ev_intI, ev_intB, ev_ixT, ev_ixL, ev_ixS, at0, at1, at2, at3, atM1, ev_seq, ev_set, ev_own, ev_ret, ev_drop, ev_sIf, ev_for, ev_frz, ev_asg, ev_par2, ev_par3, ev_mVal, ev_mOwn, ev_app, ev_setv, ev_sets0, ev_sets1, ev_stv, ev_bnm, ev_btp, ev_bl0, ev_bl1, ev_R1, ev_R2, ev_iL, ev_iT, ev_itL, ev_itT, ev_forNil, ev_nolI, ev_nolN, ev_nolS, ev_nolB, ev_nolT, ev_nolL0, ev_nolL1, ev_cTrue, ev_wipe, Rz.bind_ok, Rz.bind_exc, Rz.bind_bad, Rz.ofO_some, Rz.ofO_none, onR_ok, onR_exc, onR_bad, onO_some, onO_none, List.getElem?_cons_zero, List.getElem?_cons_succ, ite_true, ite_false, if_true, if_false, reduceIte, Nat.reduceEqDiff, reduceCtorEq, Option.map_some, Option.bind_some, List.cons_append, List.nil_append, Option.map_none, Bool.false_eq_true, Bool.not_true, Bool.not_false, decide_true, decide_false, decide_eq_true_eq, beq_self_eq_true, ev_iSq, ev_itS1, ev_itS2, ev_itS3, ev_itS4, ev_iEn, ev_enS1, ev_enS2, ev_iZp, ev_zpS1, ev_zpS2, ev_Ch, ev_Sl, ev_O0, ev_O1, ev_iO, ev_slT, ev_slL, ev_Rg, ev_Rg3, ev_Ls, ev_lsT, ev_lsL, ev_Isi, ev_Isi2, ev_Rev, ev_revT, ev_Wk, ev_wkN, ev_wkT, ev_tupN, ev_CntT, ev_ctT, ev_IxT, ev_ixT', ev_IxL, ev_ixL', ev_Cnt, ev_ctL, ev_Dic, ev_dg, ev_Sub, ev_Ext, ev_trI, ev_trT, ev_trL, ev_MmD, eq_self, ev_IsE, ev_CallH, ev_unN, ev_unR, ev_TryA, ev_Try, ev_exN, ev_exR, ev_exE, ev_tyN, ev_tyR, ev_tyE, ev_Raise, ev_noxN, ev_noxR, ev_Trg, ev_Cat])))⟩
theorem bs_len {ds : List D} (h : ds.length ≠ 3) : BothS b (.tup ds) false := by
  have q : ((ds.length : Int) == 3) = false := beq_false_of_ne (by omega)
  exact ⟨fnD_of (Rt.ift (by simp only [ev_C, ev_Var, ev_Bor, ev_Nl, ev_Bin, ev_Tup, ev_L, ev_Fn, ev_Call, ev_nil, ev_cons, ev_If, ev_And, ev_Or, ev_Not, ev_cAnd, ev_cOr, ev_cNot, ev_cB, ev_cTr, ev_toB, ev_IsN, ev_NotN, ev_isN_non, ev_isN_int, ev_isN_str, ev_isN_tup, ev_isN_bl, ev_MulL, ev_MulR, ev_DivC, ev_ModC, ev_Neg, ev_addI, ev_subI, ev_ltI, ev_leI, ev_gtI, ev_geI, ev_eqI, ev_neI, ev_eqS, ev_neS, ev_eqN, ev_neN, ev_eqNI, ev_neNI, ev_eqIN, ev_neIN, ev_eqB, ev_neB, ev_isB, ev_notB, ev_absI, ev_min2, ev_max2, ev_lenT, ev_lenL, ev_lenS, ev_tupL, ev_tupT, ev_intI, ev_intB, ev_ixT, ev_ixL, ev_ixS, at0, at1, at2, at3, atM1, ev_seq, ev_set, ev_own, ev_ret, ev_drop, ev_sIf, ev_for, ev_frz, ev_asg, ev_par2, ev_par3, ev_mVal, ev_mOwn, ev_app, ev_setv, ev_sets0, ev_sets1, ev_stv, ev_bnm, ev_btp, ev_bl0, ev_bl1, ev_R1, ev_R2, ev_iL, ev_iT, ev_itL, ev_itT, ev_forNil, ev_nolI, ev_nolN, ev_nolS, ev_nolB, ev_nolT, ev_nolL0, ev_nolL1, ev_cTrue, ev_wipe, Rz.bind_ok, Rz.bind_exc, Rz.bind_bad, Rz.ofO_some, Rz.ofO_none, onR_ok, onR_exc, onR_bad, onO_some, onO_none, List.getElem?_cons_zero, List.getElem?_cons_succ, ite_true, ite_false, if_true, if_false, reduceIte, Nat.reduceEqDiff, reduceCtorEq, Option.map_some, Option.bind_some, List.cons_append, List.nil_append, Option.map_none, Bool.false_eq_true, Bool.not_true, Bool.not_false, decide_true, decide_false, decide_eq_true_eq, beq_self_eq_true, ev_iSq, ev_itS1, ev_itS2, ev_itS3, ev_itS4, ev_iEn, ev_enS1, ev_enS2, ev_iZp, ev_zpS1, ev_zpS2, ev_Ch, ev_Sl, ev_O0, ev_O1, ev_iO, ev_slT, ev_slL, ev_Rg, ev_Rg3, ev_Ls, ev_lsT, ev_lsL, ev_Isi, ev_Isi2, ev_Rev, ev_revT, ev_Wk, ev_wkN, ev_wkT, ev_tupN, ev_CntT, ev_ctT, ev_IxT, ev_ixT', ev_IxL, ev_ixL', ev_Cnt, ev_ctL, ev_Dic, ev_dg, ev_Sub, ev_Ext, ev_trI, ev_trT, ev_trL, ev_MmD, eq_self, ev_IsE, ev_CallH, ev_unN, ev_unR, ev_TryA, ev_Try, ev_exN, ev_exR, ev_exE, ev_tyN, ev_tyR, ev_tyE, ev_Raise, ev_noxN, ev_noxR, ev_Trg, ev_Cat, it, q]) (Rt.ret (by simp only [ev_C, ev_Var, ev_Bor, ev_Nl, ev_Bin, ev_Tup, ev_L, ev_Fn, ev_Call, ev_nil, ev_cons, ev_If, ev_And, ev_Or, ev_Not, ev_cAnd, ev_cOr, ev_cNot, ev_cB, ev_cTr, ev_toB, ev_IsN, ev_NotN, ev_isN_non, ev_isN_int, ev_isN_str, ev_isN_tup, ev_isN_bl, ev_MulL, ev_MulR, ev_DivC, ev_ModC, ev_Neg, ev_addI, ev_subI, ev_ltI, ev_leI, ev_gtI, ev_geI, ev_eqI, ev_neI, ev_eqS, ev_neS, ev_eqN, ev_neN, ev_eqNI, ev_neNI, ev_eqIN, ev_neIN, ev_eqB, ev_neB, ev_isB, ev_notB, ev_absI, ev_min2, ev_max2, ev_lenT, ev_lenL, ev_lenS, ev_tupL, ev_tupT, ev_intI, ev_intB, ev_ixT, ev_ixL, ev_ixS, at0, at1, at2, at3, atM1, ev_seq, ev_set, ev_own, ev_ret, ev_drop, ev_sIf, ev_for, ev_frz, ev_asg, ev_par2, ev_par3, ev_mVal, ev_mOwn, ev_app, ev_setv, ev_sets0, ev_sets1, ev_stv, ev_bnm, ev_btp, ev_bl0, ev_bl1, ev_R1, ev_R2, ev_iL, ev_iT, ev_itL, ev_itT, ev_forNil, ev_nolI, ev_nolN, ev_nolS, ev_nolB, ev_nolT, ev_nolL0, ev_nolL1, ev_cTrue, ev_wipe, Rz.bind_ok, Rz.bind_exc, Rz.bind_bad, Rz.ofO_some, Rz.ofO_none, onR_ok, onR_exc, onR_bad, onO_some, onO_none, List.getElem?_cons_zero, List.getElem?_cons_succ, ite_true, ite_false, if_true, if_false, reduceIte, Nat.reduceEqDiff, reduceCtorEq, Option.map_some, Option.bind_some, List.cons_append, List.nil_append, Option.map_none, Bool.false_eq_true, Bool.not_true, Bool.not_false, decide_true, decide_false, decide_eq_true_eq, beq_self_eq_true, ev_iSq, ev_itS1, ev_itS2, ev_itS3, ev_itS4, ev_iEn, ev_enS1, ev_enS2, ev_iZp, ev_zpS1, ev_zpS2, ev_Ch, ev_Sl, ev_O0, ev_O1, ev_iO, ev_slT, ev_slL, ev_Rg, ev_Rg3, ev_Ls, ev_lsT, ev_lsL, ev_Isi, ev_Isi2, ev_Rev, ev_revT, ev_Wk, ev_wkN, ev_wkT, ev_tupN, ev_CntT, ev_ctT, ev_IxT, ev_ixT', ev_IxL, ev_ixL', ev_Cnt, ev_ctL, ev_Dic, ev_dg, ev_Sub, ev_Ext, ev_trI, ev_trT, ev_trL, ev_MmD, eq_self, ev_IsE, ev_CallH, ev_unN, ev_unR, ev_TryA, ev_Try, ev_exN, ev_exR, ev_exE, ev_tyN, ev_tyR, ev_tyE, ev_Raise, ev_noxN, ev_noxR, ev_Trg, ev_Cat]))), fnD_of (Rt.ift (by simp only [ev_C, ev_Var, ev_Bor, ev_Nl, ev_Bin, ev_Tup, ev_L, ev_Fn, ev_Call, ev_nil, ev_cons, ev_If, ev_And, ev_Or, ev_Not, ev_cAnd, ev_cOr, ev_cNot, ev_cB, ev_cTr, ev_toB, ev_IsN, ev_NotN, ev_isN_non, ev_isN_int, ev_isN_str, ev_isN_tup, ev_isN_bl, ev_MulL, ev_MulR, ev_DivC, ev_ModC, ev_Neg, ev_addI, ev_subI, ev_ltI, ev_leI, ev_gtI, ev_geI, ev_eqI, ev_neI, ev_eqS, ev_neS, ev_eqN, ev_neN, ev_eqNI, ev_neNI, ev_eqIN, ev_neIN, ev_eqB, ev_neB, ev_isB, ev_notB, ev_absI, ev_min2, ev_max2, ev_lenT, ev_lenL, ev_lenS, ev_tupL, ev_tupT, ev_intI, ev_intB, ev_ixT, ev_ixL, ev_ixS, at0, at1, at2, at3, atM1, ev_seq, ev_set, ev_own, ev_ret, ev_drop, ev_sIf, ev_for, ev_frz, ev_asg, ev_par2, ev_par3, ev_mVal, ev_mOwn, ev_app, ev_setv, ev_sets0, ev_sets1, ev_stv, ev_bnm, ev_btp, ev_bl0, ev_bl1, ev_R1, ev_R2, ev_iL, ev_iT, ev_itL, ev_itT, ev_forNil, ev_nolI, ev_nolN, ev_nolS, ev_nolB, ev_nolT, ev_nolL0, ev_nolL1, ev_cTrue, ev_wipe, Rz.bind_ok, Rz.bind_exc, Rz.bind_bad, Rz.ofO_some, Rz.ofO_none, onR_ok, onR_exc, onR_bad, onO_some, onO_none, List.getElem?_cons_zero, List.getElem?_cons_succ, ite_true, ite_false, if_true, if_false, reduceIte, Nat.reduceEqDiff, reduceCtorEq, Option.map_some, Option.bind_some, List.cons_append, List.nil_append, Option.map_none, Bool.false_eq_true, Bool.not_true, Bool.not_false, decide_true, decide_false, decide_eq_true_eq, beq_self_eq_true, ev_iSq, ev_itS1, ev_itS2, ev_itS3, ev_itS4, ev_iEn, ev_enS1, ev_enS2, ev_iZp, ev_zpS1, ev_zpS2, ev_Ch, ev_Sl, ev_O0, ev_O1, ev_iO, ev_slT, ev_slL, ev_Rg, ev_Rg3, ev_Ls, ev_lsT, ev_lsL, ev_Isi, ev_Isi2, ev_Rev, ev_revT, ev_Wk, ev_wkN, ev_wkT, ev_tupN, ev_CntT, ev_ctT, ev_IxT, ev_ixT', ev_IxL, ev_ixL', ev_Cnt, ev_ctL, ev_Dic, ev_dg, ev_Sub, ev_Ext, ev_trI, ev_trT, ev_trL, ev_MmD, eq_self, ev_IsE, ev_CallH, ev_unN, ev_unR, ev_TryA, ev_Try, ev_exN, ev_exR, ev_exE, ev_tyN, ev_tyR, ev_tyE, ev_Raise, ev_noxN, ev_noxR, ev_Trg, ev_Cat, it, q]) (Rt.ret (by simp only [ev_C, ev_Var, ev_Bor, ev_Nl, ev_Bin, ev_Tup, ev_L, ev_Fn, ev_Call, ev_nil, ev_cons, ev_If, ev_And, ev_Or, ev_Not, ev_cAnd, ev_cOr, ev_cNot, ev_cB, ev_cTr, ev_toB, ev_IsN, ev_NotN, ev_isN_non, ev_isN_int, ev_isN_str, ev_isN_tup, ev_isN_bl, ev_MulL, ev_MulR, ev_DivC, ev_ModC, ev_Neg, ev_addI, ev_subI, ev_ltI, ev_leI, ev_gtI, ev_geI, ev_eqI, ev_neI, ev_eqS, ev_neS, ev_eqN, ev_neN, ev_eqNI, ev_neNI, ev_eqIN, ev_neIN, ev_eqB, ev_neB, ev_isB, ev_notB, ev_absI, ev_min2, ev_max2, ev_lenT, ev_lenL, ev_lenS, ev_tupL, ev_tupT, ev_intI, ev_intB, ev_ixT, ev_ixL, ev_ixS, at0, at1, at2, at3, atM1, ev_seq, ev_set, ev_own, ev_ret, ev_drop, ev_sIf, ev_for, ev_frz, ev_asg, ev_par2, ev_par3, ev_mVal, ev_mOwn, ev_app, ev_setv, ev_sets0, ev_sets1, ev_stv, ev_bnm, ev_btp, ev_bl0, ev_bl1, ev_R1, ev_R2, ev_iL, ev_iT, ev_itL, ev_itT, ev_forNil, ev_nolI, ev_nolN, ev_nolS, ev_nolB, ev_nolT, ev_nolL0, ev_nolL1, ev_cTrue, ev_wipe, Rz.bind_ok, Rz.bind_exc, Rz.bind_bad, Rz.ofO_some, Rz.ofO_none, onR_ok, onR_exc, onR_bad, onO_some, onO_none, List.getElem?_cons_zero, List.getElem?_cons_succ, ite_true, ite_false, if_true, if_false, reduceIte, Nat.reduceEqDiff, reduceCtorEq, Option.map_some, Option.bind_some, List.cons_append, List.nil_append, Option.map_none, Bool.false_eq_true, Bool.not_true, Bool.not_false, decide_true, decide_false, decide_eq_true_eq, beq_self_eq_true, ev_iSq, ev_itS1, ev_itS2, ev_itS3, ev_itS4, ev_iEn, ev_enS1, ev_enS2, ev_iZp, ev_zpS1, ev_zpS2, ev_Ch, ev_Sl, ev_O0, ev_O1, ev_iO, ev_slT, ev_slL, ev_Rg, ev_Rg3, ev_Ls, ev_lsT, ev_lsL, ev_Isi, ev_Isi2, ev_Rev, ev_revT, ev_Wk, ev_wkN, ev_wkT, ev_tupN, ev_CntT, ev_ctT, ev_IxT, ev_ixT', ev_IxL, ev_ixL', ev_Cnt, ev_ctL, ev_Dic, ev_dg, ev_Sub, ev_Ext, ev_trI, ev_trT, ev_trL, ev_MmD, eq_self, ev_IsE, ev_CallH, ev_unN, ev_unR, ev_TryA, ev_Try, ev_exN, ev_exR, ev_exE, ev_tyN, ev_tyR, ev_tyE, ev_Raise, ev_noxN, ev_noxR, ev_Trg, ev_Cat])))⟩
theorem bs_0 {x y z : D} (h : F_is_whole [x, .int 0, .int (b.pw.length - 1)] = .ok (.bl false)) : BothS b (.tup [x, y, z]) false := by
  have h2 : F_law_whole [x, .int 0, .int (b.pw.length - 1)] = .ok (.bl false) := h
  have l := F_last_of_eq b
  exact ⟨fnD_of (Rt.ift (by simp only [ev_C, ev_Var, ev_Bor, ev_Nl, ev_Bin, ev_Tup, ev_L, ev_Fn, ev_Call, ev_nil, ev_cons, ev_If, ev_And, ev_Or, ev_Not, ev_cAnd, ev_cOr, ev_cNot, ev_cB, ev_cTr, ev_toB, ev_IsN, ev_NotN, ev_isN_non, ev_isN_int, ev_isN_str, ev_isN_tup, ev_isN_bl, ev_MulL, ev_MulR, ev_DivC, ev_ModC, ev_Neg, ev_addI, ev_subI, ev_ltI, ev_leI, ev_gtI, ev_geI, ev_eqI, ev_neI, ev_eqS, ev_neS, ev_eqN, ev_neN, ev_eqNI, ev_neNI, ev_eqIN, ev_neIN, ev_eqB, ev_neB, ev_isB, ev_notB, ev_absI, ev_min2, ev_max2, ev_lenT, ev_lenL, ev_lenS, ev_tupL, ev_tupT, ev_intI, ev_intB, ev_ixT, ev_ixL, ev_ixS, at0, at1, at2, at3, atM1, ev_seq, ev_set, ev_own, ev_ret, ev_drop, ev_sIf, ev_for, ev_frz, ev_asg, ev_par2, ev_par3, ev_mVal, ev_mOwn, ev_app, ev_setv, ev_sets0, ev_sets1, ev_stv, ev_bnm, ev_btp, ev_bl0, ev_bl1, ev_R1, ev_R2, ev_iL, ev_iT, ev_itL, ev_itT, ev_forNil, ev_nolI, ev_nolN, ev_nolS, ev_nolB, ev_nolT, ev_nolL0, ev_nolL1, ev_cTrue, ev_wipe, Rz.bind_ok, Rz.bind_exc, Rz.bind_bad, Rz.ofO_some, Rz.ofO_none, onR_ok, onR_exc, onR_bad, onO_some, onO_none, List.getElem?_cons_zero, List.getElem?_cons_succ, ite_true, ite_false, if_true, if_false, reduceIte, Nat.reduceEqDiff, reduceCtorEq, Option.map_some, Option.bind_some, List.cons_append, List.nil_append, Option.map_none, Bool.false_eq_true, Bool.not_true, Bool.not_false, decide_true, decide_false, decide_eq_true_eq, beq_self_eq_true, ev_iSq, ev_itS1, ev_itS2, ev_itS3, ev_itS4, ev_iEn, ev_enS1, ev_enS2, ev_iZp, ev_zpS1, ev_zpS2, ev_Ch, ev_Sl, ev_O0, ev_O1, ev_iO, ev_slT, ev_slL, ev_Rg, ev_Rg3, ev_Ls, ev_lsT, ev_lsL, ev_Isi, ev_Isi2, ev_Rev, ev_revT, ev_Wk, ev_wkN, ev_wkT, ev_tupN, ev_CntT, ev_ctT, ev_IxT, ev_ixT', ev_IxL, ev_ixL', ev_Cnt, ev_ctL, ev_Dic, ev_dg, ev_Sub, ev_Ext, ev_trI, ev_trT, ev_trL, ev_MmD, eq_self, ev_IsE, ev_CallH, ev_unN, ev_unR, ev_TryA, ev_Try, ev_exN, ev_exR, ev_exE, ev_tyN, ev_tyR, ev_tyE, ev_Raise, ev_noxN, ev_noxR, ev_Trg, ev_Cat, it, len3, l, h]) (Rt.ret (by simp only [ev_C, ev_Var, ev_Bor, ev_Nl, ev_Bin, ev_Tup, ev_L, ev_Fn, ev_Call, ev_nil, ev_cons, ev_If, ev_And, ev_Or, ev_Not, ev_cAnd, ev_cOr, ev_cNot, ev_cB, ev_cTr, ev_toB, ev_IsN, ev_NotN, ev_isN_non, ev_isN_int, ev_isN_str, ev_isN_tup, ev_isN_bl, ev_MulL, ev_MulR, ev_DivC, ev_ModC, ev_Neg, ev_addI, ev_subI, ev_ltI, ev_leI, ev_gtI, ev_geI, ev_eqI, ev_neI, ev_eqS, ev_neS, ev_eqN, ev_neN, ev_eqNI, ev_neNI, ev_eqIN, ev_neIN, ev_eqB, ev_neB, ev_isB, ev_notB, ev_absI, ev_min2, ev_max2, ev_lenT, ev_lenL, ev_lenS, ev_tupL, ev_tupT, ev_intI, ev_intB, ev_ixT, ev_ixL, ev_ixS, at0, at1, at2, at3, atM1, ev_seq, ev_set, ev_own, ev_ret, ev_drop, ev_sIf, ev_for, ev_frz, ev_asg, ev_par2, ev_par3, ev_mVal, ev_mOwn, ev_app, ev_setv, ev_sets0, ev_sets1, ev_stv, ev_bnm, ev_btp, ev_bl0, ev_bl1, ev_R1, ev_R2, ev_iL, ev_iT, ev_itL, ev_itT, ev_forNil, ev_nolI, ev_nolN, ev_nolS, ev_nolB, ev_nolT, ev_nolL0, ev_nolL1, ev_cTrue, ev_wipe, Rz.bind_ok, Rz.bind_exc, Rz.bind_bad, Rz.ofO_some, Rz.ofO_none, onR_ok, onR_exc, onR_bad, onO_some, onO_none, List.getElem?_cons_zero, List.getElem?_cons_succ, ite_true, ite_false, if_true, if_false, reduceIte, Nat.reduceEqDiff, reduceCtorEq, Option.map_some, Option.bind_some, List.cons_append, List.nil_append, Option.map_none, Bool.false_eq_true, Bool.not_true, Bool.not_false, decide_true, decide_false, decide_eq_true_eq, beq_self_eq_true, ev_iSq, ev_itS1, ev_itS2, ev_itS3, ev_itS4, ev_iEn, ev_enS1, ev_enS2, ev_iZp, ev_zpS1, ev_zpS2, ev_Ch, ev_Sl, ev_O0, ev_O1, ev_iO, ev_slT, ev_slL, ev_Rg, ev_Rg3, ev_Ls, ev_lsT, ev_lsL, ev_Isi, ev_Isi2, ev_Rev, ev_revT, ev_Wk, ev_wkN, ev_wkT, ev_tupN, ev_CntT, ev_ctT, ev_IxT, ev_ixT', ev_IxL, ev_ixL', ev_Cnt, ev_ctL, ev_Dic, ev_dg, ev_Sub, ev_Ext, ev_trI, ev_trT, ev_trL, ev_MmD, eq_self, ev_IsE, ev_CallH, ev_unN, ev_unR, ev_TryA, ev_Try, ev_exN, ev_exR, ev_exE, ev_tyN, ev_tyR, ev_tyE, ev_Raise, ev_noxN, ev_noxR, ev_Trg, ev_Cat]))), fnD_of (Rt.ift (by simp only [ev_C, ev_Var, ev_Bor, ev_Nl, ev_Bin, ev_Tup, ev_L, ev_Fn, ev_Call, ev_nil, ev_cons, ev_If, ev_And, ev_Or, ev_Not, ev_cAnd, ev_cOr, ev_cNot, ev_cB, ev_cTr, ev_toB, ev_IsN, ev_NotN, ev_isN_non, ev_isN_int, ev_isN_str, ev_isN_tup, ev_isN_bl, ev_MulL, ev_MulR, ev_DivC, ev_ModC, ev_Neg, ev_addI, ev_subI, ev_ltI, ev_leI, ev_gtI, ev_geI, ev_eqI, ev_neI, ev_eqS, ev_neS, ev_eqN, ev_neN, ev_eqNI, ev_neNI, ev_eqIN, ev_neIN, ev_eqB, ev_neB, ev_isB, ev_notB, ev_absI, ev_min2, ev_max2, ev_lenT, ev_lenL, ev_lenS, ev_tupL, ev_tupT, ev_intI, ev_intB, ev_ixT, ev_ixL, ev_ixS, at0, at1, at2, at3, atM1, ev_seq, ev_set, ev_own, ev_ret, ev_drop, ev_sIf, ev_for, ev_frz, ev_asg, ev_par2, ev_par3, ev_mVal, ev_mOwn, ev_app, ev_setv, ev_sets0, ev_sets1, ev_stv, ev_bnm, ev_btp, ev_bl0, ev_bl1, ev_R1, ev_R2, ev_iL, ev_iT, ev_itL, ev_itT, ev_forNil, ev_nolI, ev_nolN, ev_nolS, ev_nolB, ev_nolT, ev_nolL0, ev_nolL1, ev_cTrue, ev_wipe, Rz.bind_ok, Rz.bind_exc, Rz.bind_bad, Rz.ofO_some, Rz.ofO_none, onR_ok, onR_exc, onR_bad, onO_some, onO_none, List.getElem?_cons_zero, List.getElem?_cons_succ, ite_true, ite_false, if_true, if_false, reduceIte, Nat.reduceEqDiff, reduceCtorEq, Option.map_some, Option.bind_some, List.cons_append, List.nil_append, Option.map_none, Bool.false_eq_true, Bool.not_true, Bool.not_false, decide_true, decide_false, decide_eq_true_eq, beq_self_eq_true, ev_iSq, ev_itS1, ev_itS2, ev_itS3, ev_itS4, ev_iEn, ev_enS1, ev_enS2, ev_iZp, ev_zpS1, ev_zpS2, ev_Ch, ev_Sl, ev_O0, ev_O1, ev_iO, ev_slT, ev_slL, ev_Rg, ev_Rg3, ev_Ls, ev_lsT, ev_lsL, ev_Isi, ev_Isi2, ev_Rev, ev_revT, ev_Wk, ev_wkN, ev_wkT, ev_tupN, ev_CntT, ev_ctT, ev_IxT, ev_ixT', ev_IxL, ev_ixL', ev_Cnt, ev_ctL, ev_Dic, ev_dg, ev_Sub, ev_Ext, ev_trI, ev_trT, ev_trL, ev_MmD, eq_self, ev_IsE, ev_CallH, ev_unN, ev_unR, ev_TryA, ev_Try, ev_exN, ev_exR, ev_exE, ev_tyN, ev_tyR, ev_tyE, ev_Raise, ev_noxN, ev_noxR, ev_Trg, ev_Cat, it, len3, bd2, List.length_map, h2]) (Rt.ret (by simp only [ev_C, ev_Var, ev_Bor, ev_Nl, ev_Bin, ev_Tup, ev_L, ev_Fn, ev_Call, ev_nil, ev_cons, ev_If, ev_And, ev_Or, ev_Not, ev_cAnd, ev_cOr, ev_cNot, ev_cB, ev_cTr, ev_toB, ev_IsN, ev_NotN, ev_isN_non, ev_isN_int, ev_isN_str, ev_isN_tup, ev_isN_bl, ev_MulL, ev_MulR, ev_DivC, ev_ModC, ev_Neg, ev_addI, ev_subI, ev_ltI, ev_leI, ev_gtI, ev_geI, ev_eqI, ev_neI, ev_eqS, ev_neS, ev_eqN, ev_neN, ev_eqNI, ev_neNI, ev_eqIN, ev_neIN, ev_eqB, ev_neB, ev_isB, ev_notB, ev_absI, ev_min2, ev_max2, ev_lenT, ev_lenL, ev_lenS, ev_tupL, ev_tupT, ev_intI, ev_intB, ev_ixT, ev_ixL, ev_ixS, at0, at1, at2, at3, atM1, ev_seq, ev_set, ev_own, ev_ret, ev_drop, ev_sIf, ev_for, ev_frz, ev_asg, ev_par2, ev_par3, ev_mVal, ev_mOwn, ev_app, ev_setv, ev_sets0, ev_sets1, ev_stv, ev_bnm, ev_btp, ev_bl0, ev_bl1, ev_R1, ev_R2, ev_iL, ev_iT, ev_itL, ev_itT, ev_forNil, ev_nolI, ev_nolN, ev_nolS, ev_nolB, ev_nolT, ev_nolL0, ev_nolL1, ev_cTrue, ev_wipe, Rz.bind_ok, Rz.bind_exc, Rz.bind_bad, Rz.ofO_some, Rz.ofO_none, onR_ok, onR_exc, onR_bad, onO_some, onO_none, List.getElem?_cons_zero, List.getElem?_cons_succ, ite_true, ite_false, if_true, if_false, reduceIte, Nat.reduceEqDiff, reduceCtorEq, Option.map_some, Option.bind_some, List.cons_append, List.nil_append, Option.map_none, Bool.false_eq_true, Bool.not_true, Bool.not_false, decide_true, decide_false, decide_eq_true_eq, beq_self_eq_true, ev_iSq, ev_itS1, ev_itS2, ev_itS3, ev_itS4, ev_iEn, ev_enS1, ev_enS2, ev_iZp, ev_zpS1, ev_zpS2, ev_Ch, ev_Sl, ev_O0, ev_O1, ev_iO, ev_slT, ev_slL, ev_Rg, ev_Rg3, ev_Ls, ev_lsT, ev_lsL, ev_Isi, ev_Isi2, ev_Rev, ev_revT, ev_Wk, ev_wkN, ev_wkT, ev_tupN, ev_CntT, ev_ctT, ev_IxT, ev_ixT', ev_IxL, ev_ixL', ev_Cnt, ev_ctL, ev_Dic, ev_dg, ev_Sub, ev_Ext, ev_trI, ev_trT, ev_trL, ev_MmD, eq_self, ev_IsE, ev_CallH, ev_unN, ev_unR, ev_TryA, ev_Try, ev_exN, ev_exR, ev_exE, ev_tyN, ev_tyR, ev_tyE, ev_Raise, ev_noxN, ev_noxR, ev_Trg, ev_Cat])))⟩
theorem bs_1 {x y z : D} {u v : Bool} (h : F_is_whole [x, .int 0, .int (b.pw.length - 1)] = .ok (.bl true)) (h1 : F_is_whole [y, .int (-1), .int 1] = .ok (.bl u)) (h2 : F_is_whole [z, .int 0, .int b.wait] = .ok (.bl v)) (huv : u = false ∨ v = false) : BothS b (.tup [x, y, z]) false := by
  have g : F_law_whole [x, .int 0, .int (b.pw.length - 1)] = .ok (.bl true) := h
  have g1 : F_law_whole [y, .int (-1), .int 1] = .ok (.bl u) := h1
  have g2 : F_law_whole [z, .int 0, .int b.wait] = .ok (.bl v) := h2
  have l := F_last_of_eq b
  refine ⟨fnD_of (Rt.iff (by simp only [ev_C, ev_Var, ev_Bor, ev_Nl, ev_Bin, ev_Tup, ev_L, ev_Fn, ev_Call, ev_nil, ev_cons, ev_If, ev_And, ev_Or, ev_Not, ev_cAnd, ev_cOr, ev_cNot, ev_cB, ev_cTr, ev_toB, ev_IsN, ev_NotN, ev_isN_non, ev_isN_int, ev_isN_str, ev_isN_tup, ev_isN_bl, ev_MulL, ev_MulR, ev_DivC, ev_ModC, ev_Neg, ev_addI, ev_subI, ev_ltI, ev_leI, ev_gtI, ev_geI, ev_eqI, ev_neI, ev_eqS, ev_neS, ev_eqN, ev_neN, ev_eqNI, ev_neNI, ev_eqIN, ev_neIN, ev_eqB, ev_neB, ev_isB, ev_notB, ev_absI, ev_min2, ev_max2, ev_lenT, ev_lenL, ev_lenS, ev_tupL, ev_tupT, ev_intI, ev_intB, ev_ixT, ev_ixL, ev_ixS, at0, at1, at2, at3, atM1, ev_seq, ev_set, ev_own, ev_ret, ev_drop, ev_sIf, ev_for, ev_frz, ev_asg, ev_par2, ev_par3, ev_mVal, ev_mOwn, ev_app, ev_setv, ev_sets0, ev_sets1, ev_stv, ev_bnm, ev_btp, ev_bl0, ev_bl1, ev_R1, ev_R2, ev_iL, ev_iT, ev_itL, ev_itT, ev_forNil, ev_nolI, ev_nolN, ev_nolS, ev_nolB, ev_nolT, ev_nolL0, ev_nolL1, ev_cTrue, ev_wipe, Rz.bind_ok, Rz.bind_exc, Rz.bind_bad, Rz.ofO_some, Rz.ofO_none, onR_ok, onR_exc, onR_bad, onO_some, onO_none, List.getElem?_cons_zero, List.getElem?_cons_succ, ite_true, ite_false, if_true, if_false, reduceIte, Nat.reduceEqDiff, reduceCtorEq, Option.map_some, Option.bind_some, List.cons_append, List.nil_append, Option.map_none, Bool.false_eq_true, Bool.not_true, Bool.not_false, decide_true, decide_false, decide_eq_true_eq, beq_self_eq_true, ev_iSq, ev_itS1, ev_itS2, ev_itS3, ev_itS4, ev_iEn, ev_enS1, ev_enS2, ev_iZp, ev_zpS1, ev_zpS2, ev_Ch, ev_Sl, ev_O0, ev_O1, ev_iO, ev_slT, ev_slL, ev_Rg, ev_Rg3, ev_Ls, ev_lsT, ev_lsL, ev_Isi, ev_Isi2, ev_Rev, ev_revT, ev_Wk, ev_wkN, ev_wkT, ev_tupN, ev_CntT, ev_ctT, ev_IxT, ev_ixT', ev_IxL, ev_ixL', ev_Cnt, ev_ctL, ev_Dic, ev_dg, ev_Sub, ev_Ext, ev_trI, ev_trT, ev_trL, ev_MmD, eq_self, ev_IsE, ev_CallH, ev_unN, ev_unR, ev_TryA, ev_Try, ev_exN, ev_exR, ev_exE, ev_tyN, ev_tyR, ev_tyE, ev_Raise, ev_noxN, ev_noxR, ev_Trg, ev_Cat, it, len3, l, h]) (Rt.ift ?_ (Rt.ret (by simp only [ev_C, ev_Var, ev_Bor, ev_Nl, ev_Bin, ev_Tup, ev_L, ev_Fn, ev_Call, ev_nil, ev_cons, ev_If, ev_And, ev_Or, ev_Not, ev_cAnd, ev_cOr, ev_cNot, ev_cB, ev_cTr, ev_toB, ev_IsN, ev_NotN, ev_isN_non, ev_isN_int, ev_isN_str, ev_isN_tup, ev_isN_bl, ev_MulL, ev_MulR, ev_DivC, ev_ModC, ev_Neg, ev_addI, ev_subI, ev_ltI, ev_leI, ev_gtI, ev_geI, ev_eqI, ev_neI, ev_eqS, ev_neS, ev_eqN, ev_neN, ev_eqNI, ev_neNI, ev_eqIN, ev_neIN, ev_eqB, ev_neB, ev_isB, ev_notB, ev_absI, ev_min2, ev_max2, ev_lenT, ev_lenL, ev_lenS, ev_tupL, ev_tupT, ev_intI, ev_intB, ev_ixT, ev_ixL, ev_ixS, at0, at1, at2, at3, atM1, ev_seq, ev_set, ev_own, ev_ret, ev_drop, ev_sIf, ev_for, ev_frz, ev_asg, ev_par2, ev_par3, ev_mVal, ev_mOwn, ev_app, ev_setv, ev_sets0, ev_sets1, ev_stv, ev_bnm, ev_btp, ev_bl0, ev_bl1, ev_R1, ev_R2, ev_iL, ev_iT, ev_itL, ev_itT, ev_forNil, ev_nolI, ev_nolN, ev_nolS, ev_nolB, ev_nolT, ev_nolL0, ev_nolL1, ev_cTrue, ev_wipe, Rz.bind_ok, Rz.bind_exc, Rz.bind_bad, Rz.ofO_some, Rz.ofO_none, onR_ok, onR_exc, onR_bad, onO_some, onO_none, List.getElem?_cons_zero, List.getElem?_cons_succ, ite_true, ite_false, if_true, if_false, reduceIte, Nat.reduceEqDiff, reduceCtorEq, Option.map_some, Option.bind_some, List.cons_append, List.nil_append, Option.map_none, Bool.false_eq_true, Bool.not_true, Bool.not_false, decide_true, decide_false, decide_eq_true_eq, beq_self_eq_true, ev_iSq, ev_itS1, ev_itS2, ev_itS3, ev_itS4, ev_iEn, ev_enS1, ev_enS2, ev_iZp, ev_zpS1, ev_zpS2, ev_Ch, ev_Sl, ev_O0, ev_O1, ev_iO, ev_slT, ev_slL, ev_Rg, ev_Rg3, ev_Ls, ev_lsT, ev_lsL, ev_Isi, ev_Isi2, ev_Rev, ev_revT, ev_Wk, ev_wkN, ev_wkT, ev_tupN, ev_CntT, ev_ctT, ev_IxT, ev_ixT', ev_IxL, ev_ixL', ev_Cnt, ev_ctL, ev_Dic, ev_dg, ev_Sub, ev_Ext, ev_trI, ev_trT, ev_trL, ev_MmD, eq_self, ev_IsE, ev_CallH, ev_unN, ev_unR, ev_TryA, ev_Try, ev_exN, ev_exR, ev_exE, ev_tyN, ev_tyR, ev_tyE, ev_Raise, ev_noxN, ev_noxR, ev_Trg, ev_Cat])))), fnD_of (Rt.iff (by simp only [ev_C, ev_Var, ev_Bor, ev_Nl, ev_Bin, ev_Tup, ev_L, ev_Fn, ev_Call, ev_nil, ev_cons, ev_If, ev_And, ev_Or, ev_Not, ev_cAnd, ev_cOr, ev_cNot, ev_cB, ev_cTr, ev_toB, ev_IsN, ev_NotN, ev_isN_non, ev_isN_int, ev_isN_str, ev_isN_tup, ev_isN_bl, ev_MulL, ev_MulR, ev_DivC, ev_ModC, ev_Neg, ev_addI, ev_subI, ev_ltI, ev_leI, ev_gtI, ev_geI, ev_eqI, ev_neI, ev_eqS, ev_neS, ev_eqN, ev_neN, ev_eqNI, ev_neNI, ev_eqIN, ev_neIN, ev_eqB, ev_neB, ev_isB, ev_notB, ev_absI, ev_min2, ev_max2, ev_lenT, ev_lenL, ev_lenS, ev_tupL, ev_tupT, ev_intI, ev_intB, ev_ixT, ev_ixL, ev_ixS, at0, at1, at2, at3, atM1, ev_seq, ev_set, ev_own, ev_ret, ev_drop, ev_sIf, ev_for, ev_frz, ev_asg, ev_par2, ev_par3, ev_mVal, ev_mOwn, ev_app, ev_setv, ev_sets0, ev_sets1, ev_stv, ev_bnm, ev_btp, ev_bl0, ev_bl1, ev_R1, ev_R2, ev_iL, ev_iT, ev_itL, ev_itT, ev_forNil, ev_nolI, ev_nolN, ev_nolS, ev_nolB, ev_nolT, ev_nolL0, ev_nolL1, ev_cTrue, ev_wipe, Rz.bind_ok, Rz.bind_exc, Rz.bind_bad, Rz.ofO_some, Rz.ofO_none, onR_ok, onR_exc, onR_bad, onO_some, onO_none, List.getElem?_cons_zero, List.getElem?_cons_succ, ite_true, ite_false, if_true, if_false, reduceIte, Nat.reduceEqDiff, reduceCtorEq, Option.map_some, Option.bind_some, List.cons_append, List.nil_append, Option.map_none, Bool.false_eq_true, Bool.not_true, Bool.not_false, decide_true, decide_false, decide_eq_true_eq, beq_self_eq_true, ev_iSq, ev_itS1, ev_itS2, ev_itS3, ev_itS4, ev_iEn, ev_enS1, ev_enS2, ev_iZp, ev_zpS1, ev_zpS2, ev_Ch, ev_Sl, ev_O0, ev_O1, ev_iO, ev_slT, ev_slL, ev_Rg, ev_Rg3, ev_Ls, ev_lsT, ev_lsL, ev_Isi, ev_Isi2, ev_Rev, ev_revT, ev_Wk, ev_wkN, ev_wkT, ev_tupN, ev_CntT, ev_ctT, ev_IxT, ev_ixT', ev_IxL, ev_ixL', ev_Cnt, ev_ctL, ev_Dic, ev_dg, ev_Sub, ev_Ext, ev_trI, ev_trT, ev_trL, ev_MmD, eq_self, ev_IsE, ev_CallH, ev_unN, ev_unR, ev_TryA, ev_Try, ev_exN, ev_exR, ev_exE, ev_tyN, ev_tyR, ev_tyE, ev_Raise, ev_noxN, ev_noxR, ev_Trg, ev_Cat, it, len3, bd2, List.length_map, g]) (Rt.ift ?_ (Rt.ret (by simp only [ev_C, ev_Var, ev_Bor, ev_Nl, ev_Bin, ev_Tup, ev_L, ev_Fn, ev_Call, ev_nil, ev_cons, ev_If, ev_And, ev_Or, ev_Not, ev_cAnd, ev_cOr, ev_cNot, ev_cB, ev_cTr, ev_toB, ev_IsN, ev_NotN, ev_isN_non, ev_isN_int, ev_isN_str, ev_isN_tup, ev_isN_bl, ev_MulL, ev_MulR, ev_DivC, ev_ModC, ev_Neg, ev_addI, ev_subI, ev_ltI, ev_leI, ev_gtI, ev_geI, ev_eqI, ev_neI, ev_eqS, ev_neS, ev_eqN, ev_neN, ev_eqNI, ev_neNI, ev_eqIN, ev_neIN, ev_eqB, ev_neB, ev_isB, ev_notB, ev_absI, ev_min2, ev_max2, ev_lenT, ev_lenL, ev_lenS, ev_tupL, ev_tupT, ev_intI, ev_intB, ev_ixT, ev_ixL, ev_ixS, at0, at1, at2, at3, atM1, ev_seq, ev_set, ev_own, ev_ret, ev_drop, ev_sIf, ev_for, ev_frz, ev_asg, ev_par2, ev_par3, ev_mVal, ev_mOwn, ev_app, ev_setv, ev_sets0, ev_sets1, ev_stv, ev_bnm, ev_btp, ev_bl0, ev_bl1, ev_R1, ev_R2, ev_iL, ev_iT, ev_itL, ev_itT, ev_forNil, ev_nolI, ev_nolN, ev_nolS, ev_nolB, ev_nolT, ev_nolL0, ev_nolL1, ev_cTrue, ev_wipe, Rz.bind_ok, Rz.bind_exc, Rz.bind_bad, Rz.ofO_some, Rz.ofO_none, onR_ok, onR_exc, onR_bad, onO_some, onO_none, List.getElem?_cons_zero, List.getElem?_cons_succ, ite_true, ite_false, if_true, if_false, reduceIte, Nat.reduceEqDiff, reduceCtorEq, Option.map_some, Option.bind_some, List.cons_append, List.nil_append, Option.map_none, Bool.false_eq_true, Bool.not_true, Bool.not_false, decide_true, decide_false, decide_eq_true_eq, beq_self_eq_true, ev_iSq, ev_itS1, ev_itS2, ev_itS3, ev_itS4, ev_iEn, ev_enS1, ev_enS2, ev_iZp, ev_zpS1, ev_zpS2, ev_Ch, ev_Sl, ev_O0, ev_O1, ev_iO, ev_slT, ev_slL, ev_Rg, ev_Rg3, ev_Ls, ev_lsT, ev_lsL, ev_Isi, ev_Isi2, ev_Rev, ev_revT, ev_Wk, ev_wkN, ev_wkT, ev_tupN, ev_CntT, ev_ctT, ev_IxT, ev_ixT', ev_IxL, ev_ixL', ev_Cnt, ev_ctL, ev_Dic, ev_dg, ev_Sub, ev_Ext, ev_trI, ev_trT, ev_trL, ev_MmD, eq_self, ev_IsE, ev_CallH, ev_unN, ev_unR, ev_TryA, ev_Try, ev_exN, ev_exR, ev_exE, ev_tyN, ev_tyR, ev_tyE, ev_Raise, ev_noxN, ev_noxR, ev_Trg, ev_Cat]))))⟩
  · cases u <;> cases v <;> simp at huv <;> simp only [ev_C, ev_Var, ev_Bor, ev_Nl, ev_Bin, ev_Tup, ev_L, ev_Fn, ev_Call, ev_nil, ev_cons, ev_If, ev_And, ev_Or, ev_Not, ev_cAnd, ev_cOr, ev_cNot, ev_cB, ev_cTr, ev_toB, ev_IsN, ev_NotN, ev_isN_non, ev_isN_int, ev_isN_str, ev_isN_tup, ev_isN_bl, ev_MulL, ev_MulR, ev_DivC, ev_ModC, ev_Neg, ev_addI, ev_subI, ev_ltI, ev_leI, ev_gtI, ev_geI, ev_eqI, ev_neI, ev_eqS, ev_neS, ev_eqN, ev_neN, ev_eqNI, ev_neNI, ev_eqIN, ev_neIN, ev_eqB, ev_neB, ev_isB, ev_notB, ev_absI, ev_min2, ev_max2, ev_lenT, ev_lenL, ev_lenS, ev_tupL, ev_tupT, ev_intI, ev_intB, ev_ixT, ev_ixL, ev_ixS, at0, at1, at2, at3, atM1, ev_seq, ev_set, ev_own, ev_ret, ev_drop, ev_sIf, ev_for, ev_frz, ev_asg, ev_par2, ev_par3, ev_mVal, ev_mOwn, ev_app, ev_setv, ev_sets0, ev_sets1, ev_stv, ev_bnm, ev_btp, ev_bl0, ev_bl1, ev_R1, ev_R2, ev_iL, ev_iT, ev_itL, ev_itT, ev_forNil, ev_nolI, ev_nolN, ev_nolS, ev_nolB, ev_nolT, ev_nolL0, ev_nolL1, ev_cTrue, ev_wipe, Rz.bind_ok, Rz.bind_exc, Rz.bind_bad, Rz.ofO_some, Rz.ofO_none, onR_ok, onR_exc, onR_bad, onO_some, onO_none, List.getElem?_cons_zero, List.getElem?_cons_succ, ite_true, ite_false, if_true, if_false, reduceIte, Nat.reduceEqDiff, reduceCtorEq, Option.map_some, Option.bind_some, List.cons_append, List.nil_append, Option.map_none, Bool.false_eq_true, Bool.not_true, Bool.not_false, decide_true, decide_false, decide_eq_true_eq, beq_self_eq_true, ev_iSq, ev_itS1, ev_itS2, ev_itS3, ev_itS4, ev_iEn, ev_enS1, ev_enS2, ev_iZp, ev_zpS1, ev_zpS2, ev_Ch, ev_Sl, ev_O0, ev_O1, ev_iO, ev_slT, ev_slL, ev_Rg, ev_Rg3, ev_Ls, ev_lsT, ev_lsL, ev_Isi, ev_Isi2, ev_Rev, ev_revT, ev_Wk, ev_wkN, ev_wkT, ev_tupN, ev_CntT, ev_ctT, ev_IxT, ev_ixT', ev_IxL, ev_ixL', ev_Cnt, ev_ctL, ev_Dic, ev_dg, ev_Sub, ev_Ext, ev_trI, ev_trT, ev_trL, ev_MmD, eq_self, ev_IsE, ev_CallH, ev_unN, ev_unR, ev_TryA, ev_Try, ev_exN, ev_exR, ev_exE, ev_tyN, ev_tyR, ev_tyE, ev_Raise, ev_noxN, ev_noxR, ev_Trg, ev_Cat, bd3, h1, h2]
  · cases u <;> cases v <;> simp at huv <;> simp only [ev_C, ev_Var, ev_Bor, ev_Nl, ev_Bin, ev_Tup, ev_L, ev_Fn, ev_Call, ev_nil, ev_cons, ev_If, ev_And, ev_Or, ev_Not, ev_cAnd, ev_cOr, ev_cNot, ev_cB, ev_cTr, ev_toB, ev_IsN, ev_NotN, ev_isN_non, ev_isN_int, ev_isN_str, ev_isN_tup, ev_isN_bl, ev_MulL, ev_MulR, ev_DivC, ev_ModC, ev_Neg, ev_addI, ev_subI, ev_ltI, ev_leI, ev_gtI, ev_geI, ev_eqI, ev_neI, ev_eqS, ev_neS, ev_eqN, ev_neN, ev_eqNI, ev_neNI, ev_eqIN, ev_neIN, ev_eqB, ev_neB, ev_isB, ev_notB, ev_absI, ev_min2, ev_max2, ev_lenT, ev_lenL, ev_lenS, ev_tupL, ev_tupT, ev_intI, ev_intB, ev_ixT, ev_ixL, ev_ixS, at0, at1, at2, at3, atM1, ev_seq, ev_set, ev_own, ev_ret, ev_drop, ev_sIf, ev_for, ev_frz, ev_asg, ev_par2, ev_par3, ev_mVal, ev_mOwn, ev_app, ev_setv, ev_sets0, ev_sets1, ev_stv, ev_bnm, ev_btp, ev_bl0, ev_bl1, ev_R1, ev_R2, ev_iL, ev_iT, ev_itL, ev_itT, ev_forNil, ev_nolI, ev_nolN, ev_nolS, ev_nolB, ev_nolT, ev_nolL0, ev_nolL1, ev_cTrue, ev_wipe, Rz.bind_ok, Rz.bind_exc, Rz.bind_bad, Rz.ofO_some, Rz.ofO_none, onR_ok, onR_exc, onR_bad, onO_some, onO_none, List.getElem?_cons_zero, List.getElem?_cons_succ, ite_true, ite_false, if_true, if_false, reduceIte, Nat.reduceEqDiff, reduceCtorEq, Option.map_some, Option.bind_some, List.cons_append, List.nil_append, Option.map_none, Bool.false_eq_true, Bool.not_true, Bool.not_false, decide_true, decide_false, decide_eq_true_eq, beq_self_eq_true, ev_iSq, ev_itS1, ev_itS2, ev_itS3, ev_itS4, ev_iEn, ev_enS1, ev_enS2, ev_iZp, ev_zpS1, ev_zpS2, ev_Ch, ev_Sl, ev_O0, ev_O1, ev_iO, ev_slT, ev_slL, ev_Rg, ev_Rg3, ev_Ls, ev_lsT, ev_lsL, ev_Isi, ev_Isi2, ev_Rev, ev_revT, ev_Wk, ev_wkN, ev_wkT, ev_tupN, ev_CntT, ev_ctT, ev_IxT, ev_ixT', ev_IxL, ev_ixL', ev_Cnt, ev_ctL, ev_Dic, ev_dg, ev_Sub, ev_Ext, ev_trI, ev_trT, ev_trL, ev_MmD, eq_self, ev_IsE, ev_CallH, ev_unN, ev_unR, ev_TryA, ev_Try, ev_exN, ev_exR, ev_exE, ev_tyN, ev_tyR, ev_tyE, ev_Raise, ev_noxN, ev_noxR, ev_Trg, ev_Cat, bd3, g1, g2]
theorem bs_2 {x y z : Int} (h : F_is_whole [.int x, .int 0, .int (b.pw.length - 1)] = .ok (.bl true)) (h1 : F_is_whole [.int y, .int (-1), .int 1] = .ok (.bl true)) (h2 : F_is_whole [.int z, .int 0, .int b.wait] = .ok (.bl true)) : ∃ c, BothS b (.tup [.int x, .int y, .int z]) c := by
  have g : F_law_whole [.int x, .int 0, .int (b.pw.length - 1)] = .ok (.bl true) := h
  have g1 : F_law_whole [.int y, .int (-1), .int 1] = .ok (.bl true) := h1
  have g2 : F_law_whole [.int z, .int 0, .int b.wait] = .ok (.bl true) := h2
  have l := F_last_of_eq b
  have key : ∀ p q r s : Bool, (y == -1) = p → (x == 0) = q → (y == 1) = r → (x == (b.pw.length : Int) - 1) = s → ∃ c, BothS b (.tup [.int x, .int y, .int z]) c := by
    intro p q r s hp hq hr hs
    by_cases w : (p && q || r && s) = true
    · refine ⟨false, fnD_of (Rt.iff (by simp only [ev_C, ev_Var, ev_Bor, ev_Nl, ev_Bin, ev_Tup, ev_L, ev_Fn, ev_Call, ev_nil, ev_cons, ev_If, ev_And, ev_Or, ev_Not, ev_cAnd, ev_cOr, ev_cNot, ev_cB, ev_cTr, ev_toB, ev_IsN, ev_NotN, ev_isN_non, ev_isN_int, ev_isN_str, ev_isN_tup, ev_isN_bl, ev_MulL, ev_MulR, ev_DivC, ev_ModC, ev_Neg, ev_addI, ev_subI, ev_ltI, ev_leI, ev_gtI, ev_geI, ev_eqI, ev_neI, ev_eqS, ev_neS, ev_eqN, ev_neN, ev_eqNI, ev_neNI, ev_eqIN, ev_neIN, ev_eqB, ev_neB, ev_isB, ev_notB, ev_absI, ev_min2, ev_max2, ev_lenT, ev_lenL, ev_lenS, ev_tupL, ev_tupT, ev_intI, ev_intB, ev_ixT, ev_ixL, ev_ixS, at0, at1, at2, at3, atM1, ev_seq, ev_set, ev_own, ev_ret, ev_drop, ev_sIf, ev_for, ev_frz, ev_asg, ev_par2, ev_par3, ev_mVal, ev_mOwn, ev_app, ev_setv, ev_sets0, ev_sets1, ev_stv, ev_bnm, ev_btp, ev_bl0, ev_bl1, ev_R1, ev_R2, ev_iL, ev_iT, ev_itL, ev_itT, ev_forNil, ev_nolI, ev_nolN, ev_nolS, ev_nolB, ev_nolT, ev_nolL0, ev_nolL1, ev_cTrue, ev_wipe, Rz.bind_ok, Rz.bind_exc, Rz.bind_bad, Rz.ofO_some, Rz.ofO_none, onR_ok, onR_exc, onR_bad, onO_some, onO_none, List.getElem?_cons_zero, List.getElem?_cons_succ, ite_true, ite_false, if_true, if_false, reduceIte, Nat.reduceEqDiff, reduceCtorEq, Option.map_some, Option.bind_some, List.cons_append, List.nil_append, Option.map_none, Bool.false_eq_true, Bool.not_true, Bool.not_false, decide_true, decide_false, decide_eq_true_eq, beq_self_eq_true, ev_iSq, ev_itS1, ev_itS2, ev_itS3, ev_itS4, ev_iEn, ev_enS1, ev_enS2, ev_iZp, ev_zpS1, ev_zpS2, ev_Ch, ev_Sl, ev_O0, ev_O1, ev_iO, ev_slT, ev_slL, ev_Rg, ev_Rg3, ev_Ls, ev_lsT, ev_lsL, ev_Isi, ev_Isi2, ev_Rev, ev_revT, ev_Wk, ev_wkN, ev_wkT, ev_tupN, ev_CntT, ev_ctT, ev_IxT, ev_ixT', ev_IxL, ev_ixL', ev_Cnt, ev_ctL, ev_Dic, ev_dg, ev_Sub, ev_Ext, ev_trI, ev_trT, ev_trL, ev_MmD, eq_self, ev_IsE, ev_CallH, ev_unN, ev_unR, ev_TryA, ev_Try, ev_exN, ev_exR, ev_exE, ev_tyN, ev_tyR, ev_tyE, ev_Raise, ev_noxN, ev_noxR, ev_Trg, ev_Cat, it, len3, l, h]) (Rt.iff (by simp only [ev_C, ev_Var, ev_Bor, ev_Nl, ev_Bin, ev_Tup, ev_L, ev_Fn, ev_Call, ev_nil, ev_cons, ev_If, ev_And, ev_Or, ev_Not, ev_cAnd, ev_cOr, ev_cNot, ev_cB, ev_cTr, ev_toB, ev_IsN, ev_NotN, ev_isN_non, ev_isN_int, ev_isN_str, ev_isN_tup, ev_isN_bl, ev_MulL, ev_MulR, ev_DivC, ev_ModC, ev_Neg, ev_addI, ev_subI, ev_ltI, ev_leI, ev_gtI, ev_geI, ev_eqI, ev_neI, ev_eqS, ev_neS, ev_eqN, ev_neN, ev_eqNI, ev_neNI, ev_eqIN, ev_neIN, ev_eqB, ev_neB, ev_isB, ev_notB, ev_absI, ev_min2, ev_max2, ev_lenT, ev_lenL, ev_lenS, ev_tupL, ev_tupT, ev_intI, ev_intB, ev_ixT, ev_ixL, ev_ixS, at0, at1, at2, at3, atM1, ev_seq, ev_set, ev_own, ev_ret, ev_drop, ev_sIf, ev_for, ev_frz, ev_asg, ev_par2, ev_par3, ev_mVal, ev_mOwn, ev_app, ev_setv, ev_sets0, ev_sets1, ev_stv, ev_bnm, ev_btp, ev_bl0, ev_bl1, ev_R1, ev_R2, ev_iL, ev_iT, ev_itL, ev_itT, ev_forNil, ev_nolI, ev_nolN, ev_nolS, ev_nolB, ev_nolT, ev_nolL0, ev_nolL1, ev_cTrue, ev_wipe, Rz.bind_ok, Rz.bind_exc, Rz.bind_bad, Rz.ofO_some, Rz.ofO_none, onR_ok, onR_exc, onR_bad, onO_some, onO_none, List.getElem?_cons_zero, List.getElem?_cons_succ, ite_true, ite_false, if_true, if_false, reduceIte, Nat.reduceEqDiff, reduceCtorEq, Option.map_some, Option.bind_some, List.cons_append, List.nil_append, Option.map_none, Bool.false_eq_true, Bool.not_true, Bool.not_false, decide_true, decide_false, decide_eq_true_eq, beq_self_eq_true, ev_iSq, ev_itS1, ev_itS2, ev_itS3, ev_itS4, ev_iEn, ev_enS1, ev_enS2, ev_iZp, ev_zpS1, ev_zpS2, ev_Ch, ev_Sl, ev_O0, ev_O1, ev_iO, ev_slT, ev_slL, ev_Rg, ev_Rg3, ev_Ls, ev_lsT, ev_lsL, ev_Isi, ev_Isi2, ev_Rev, ev_revT, ev_Wk, ev_wkN, ev_wkT, ev_tupN, ev_CntT, ev_ctT, ev_IxT, ev_ixT', ev_IxL, ev_ixL', ev_Cnt, ev_ctL, ev_Dic, ev_dg, ev_Sub, ev_Ext, ev_trI, ev_trT, ev_trL, ev_MmD, eq_self, ev_IsE, ev_CallH, ev_unN, ev_unR, ev_TryA, ev_Try, ev_exN, ev_exR, ev_exE, ev_tyN, ev_tyR, ev_tyE, ev_Raise, ev_noxN, ev_noxR, ev_Trg, ev_Cat, bd3, h1, h2]) (Rt.ift ?_ (Rt.ret (by simp only [ev_C, ev_Var, ev_Bor, ev_Nl, ev_Bin, ev_Tup, ev_L, ev_Fn, ev_Call, ev_nil, ev_cons, ev_If, ev_And, ev_Or, ev_Not, ev_cAnd, ev_cOr, ev_cNot, ev_cB, ev_cTr, ev_toB, ev_IsN, ev_NotN, ev_isN_non, ev_isN_int, ev_isN_str, ev_isN_tup, ev_isN_bl, ev_MulL, ev_MulR, ev_DivC, ev_ModC, ev_Neg, ev_addI, ev_subI, ev_ltI, ev_leI, ev_gtI, ev_geI, ev_eqI, ev_neI, ev_eqS, ev_neS, ev_eqN, ev_neN, ev_eqNI, ev_neNI, ev_eqIN, ev_neIN, ev_eqB, ev_neB, ev_isB, ev_notB, ev_absI, ev_min2, ev_max2, ev_lenT, ev_lenL, ev_lenS, ev_tupL, ev_tupT, ev_intI, ev_intB, ev_ixT, ev_ixL, ev_ixS, at0, at1, at2, at3, atM1, ev_seq, ev_set, ev_own, ev_ret, ev_drop, ev_sIf, ev_for, ev_frz, ev_asg, ev_par2, ev_par3, ev_mVal, ev_mOwn, ev_app, ev_setv, ev_sets0, ev_sets1, ev_stv, ev_bnm, ev_btp, ev_bl0, ev_bl1, ev_R1, ev_R2, ev_iL, ev_iT, ev_itL, ev_itT, ev_forNil, ev_nolI, ev_nolN, ev_nolS, ev_nolB, ev_nolT, ev_nolL0, ev_nolL1, ev_cTrue, ev_wipe, Rz.bind_ok, Rz.bind_exc, Rz.bind_bad, Rz.ofO_some, Rz.ofO_none, onR_ok, onR_exc, onR_bad, onO_some, onO_none, List.getElem?_cons_zero, List.getElem?_cons_succ, ite_true, ite_false, if_true, if_false, reduceIte, Nat.reduceEqDiff, reduceCtorEq, Option.map_some, Option.bind_some, List.cons_append, List.nil_append, Option.map_none, Bool.false_eq_true, Bool.not_true, Bool.not_false, decide_true, decide_false, decide_eq_true_eq, beq_self_eq_true, ev_iSq, ev_itS1, ev_itS2, ev_itS3, ev_itS4, ev_iEn, ev_enS1, ev_enS2, ev_iZp, ev_zpS1, ev_zpS2, ev_Ch, ev_Sl, ev_O0, ev_O1, ev_iO, ev_slT, ev_slL, ev_Rg, ev_Rg3, ev_Ls, ev_lsT, ev_lsL, ev_Isi, ev_Isi2, ev_Rev, ev_revT, ev_Wk, ev_wkN, ev_wkT, ev_tupN, ev_CntT, ev_ctT, ev_IxT, ev_ixT', ev_IxL, ev_ixL', ev_Cnt, ev_ctL, ev_Dic, ev_dg, ev_Sub, ev_Ext, ev_trI, ev_trT, ev_trL, ev_MmD, eq_self, ev_IsE, ev_CallH, ev_unN, ev_unR, ev_TryA, ev_Try, ev_exN, ev_exR, ev_exE, ev_tyN, ev_tyR, ev_tyE, ev_Raise, ev_noxN, ev_noxR, ev_Trg, ev_Cat]))))), fnD_of (Rt.iff (by simp only [ev_C, ev_Var, ev_Bor, ev_Nl, ev_Bin, ev_Tup, ev_L, ev_Fn, ev_Call, ev_nil, ev_cons, ev_If, ev_And, ev_Or, ev_Not, ev_cAnd, ev_cOr, ev_cNot, ev_cB, ev_cTr, ev_toB, ev_IsN, ev_NotN, ev_isN_non, ev_isN_int, ev_isN_str, ev_isN_tup, ev_isN_bl, ev_MulL, ev_MulR, ev_DivC, ev_ModC, ev_Neg, ev_addI, ev_subI, ev_ltI, ev_leI, ev_gtI, ev_geI, ev_eqI, ev_neI, ev_eqS, ev_neS, ev_eqN, ev_neN, ev_eqNI, ev_neNI, ev_eqIN, ev_neIN, ev_eqB, ev_neB, ev_isB, ev_notB, ev_absI, ev_min2, ev_max2, ev_lenT, ev_lenL, ev_lenS, ev_tupL, ev_tupT, ev_intI, ev_intB, ev_ixT, ev_ixL, ev_ixS, at0, at1, at2, at3, atM1, ev_seq, ev_set, ev_own, ev_ret, ev_drop, ev_sIf, ev_for, ev_frz, ev_asg, ev_par2, ev_par3, ev_mVal, ev_mOwn, ev_app, ev_setv, ev_sets0, ev_sets1, ev_stv, ev_bnm, ev_btp, ev_bl0, ev_bl1, ev_R1, ev_R2, ev_iL, ev_iT, ev_itL, ev_itT, ev_forNil, ev_nolI, ev_nolN, ev_nolS, ev_nolB, ev_nolT, ev_nolL0, ev_nolL1, ev_cTrue, ev_wipe, Rz.bind_ok, Rz.bind_exc, Rz.bind_bad, Rz.ofO_some, Rz.ofO_none, onR_ok, onR_exc, onR_bad, onO_some, onO_none, List.getElem?_cons_zero, List.getElem?_cons_succ, ite_true, ite_false, if_true, if_false, reduceIte, Nat.reduceEqDiff, reduceCtorEq, Option.map_some, Option.bind_some, List.cons_append, List.nil_append, Option.map_none, Bool.false_eq_true, Bool.not_true, Bool.not_false, decide_true, decide_false, decide_eq_true_eq, beq_self_eq_true, ev_iSq, ev_itS1, ev_itS2, ev_itS3, ev_itS4, ev_iEn, ev_enS1, ev_enS2, ev_iZp, ev_zpS1, ev_zpS2, ev_Ch, ev_Sl, ev_O0, ev_O1, ev_iO, ev_slT, ev_slL, ev_Rg, ev_Rg3, ev_Ls, ev_lsT, ev_lsL, ev_Isi, ev_Isi2, ev_Rev, ev_revT, ev_Wk, ev_wkN, ev_wkT, ev_tupN, ev_CntT, ev_ctT, ev_IxT, ev_ixT', ev_IxL, ev_ixL', ev_Cnt, ev_ctL, ev_Dic, ev_dg, ev_Sub, ev_Ext, ev_trI, ev_trT, ev_trL, ev_MmD, eq_self, ev_IsE, ev_CallH, ev_unN, ev_unR, ev_TryA, ev_Try, ev_exN, ev_exR, ev_exE, ev_tyN, ev_tyR, ev_tyE, ev_Raise, ev_noxN, ev_noxR, ev_Trg, ev_Cat, it, len3, bd2, List.length_map, g]) (Rt.iff (by simp only [ev_C, ev_Var, ev_Bor, ev_Nl, ev_Bin, ev_Tup, ev_L, ev_Fn, ev_Call, ev_nil, ev_cons, ev_If, ev_And, ev_Or, ev_Not, ev_cAnd, ev_cOr, ev_cNot, ev_cB, ev_cTr, ev_toB, ev_IsN, ev_NotN, ev_isN_non, ev_isN_int, ev_isN_str, ev_isN_tup, ev_isN_bl, ev_MulL, ev_MulR, ev_DivC, ev_ModC, ev_Neg, ev_addI, ev_subI, ev_ltI, ev_leI, ev_gtI, ev_geI, ev_eqI, ev_neI, ev_eqS, ev_neS, ev_eqN, ev_neN, ev_eqNI, ev_neNI, ev_eqIN, ev_neIN, ev_eqB, ev_neB, ev_isB, ev_notB, ev_absI, ev_min2, ev_max2, ev_lenT, ev_lenL, ev_lenS, ev_tupL, ev_tupT, ev_intI, ev_intB, ev_ixT, ev_ixL, ev_ixS, at0, at1, at2, at3, atM1, ev_seq, ev_set, ev_own, ev_ret, ev_drop, ev_sIf, ev_for, ev_frz, ev_asg, ev_par2, ev_par3, ev_mVal, ev_mOwn, ev_app, ev_setv, ev_sets0, ev_sets1, ev_stv, ev_bnm, ev_btp, ev_bl0, ev_bl1, ev_R1, ev_R2, ev_iL, ev_iT, ev_itL, ev_itT, ev_forNil, ev_nolI, ev_nolN, ev_nolS, ev_nolB, ev_nolT, ev_nolL0, ev_nolL1, ev_cTrue, ev_wipe, Rz.bind_ok, Rz.bind_exc, Rz.bind_bad, Rz.ofO_some, Rz.ofO_none, onR_ok, onR_exc, onR_bad, onO_some, onO_none, List.getElem?_cons_zero, List.getElem?_cons_succ, ite_true, ite_false, if_true, if_false, reduceIte, Nat.reduceEqDiff, reduceCtorEq, Option.map_some, Option.bind_some, List.cons_append, List.nil_append, Option.map_none, Bool.false_eq_true, Bool.not_true, Bool.not_false, decide_true, decide_false, decide_eq_true_eq, beq_self_eq_true, ev_iSq, ev_itS1, ev_itS2, ev_itS3, ev_itS4, ev_iEn, ev_enS1, ev_enS2, ev_iZp, ev_zpS1, ev_zpS2, ev_Ch, ev_Sl, ev_O0, ev_O1, ev_iO, ev_slT, ev_slL, ev_Rg, ev_Rg3, ev_Ls, ev_lsT, ev_lsL, ev_Isi, ev_Isi2, ev_Rev, ev_revT, ev_Wk, ev_wkN, ev_wkT, ev_tupN, ev_CntT, ev_ctT, ev_IxT, ev_ixT', ev_IxL, ev_ixL', ev_Cnt, ev_ctL, ev_Dic, ev_dg, ev_Sub, ev_Ext, ev_trI, ev_trT, ev_trL, ev_MmD, eq_self, ev_IsE, ev_CallH, ev_unN, ev_unR, ev_TryA, ev_Try, ev_exN, ev_exR, ev_exE, ev_tyN, ev_tyR, ev_tyE, ev_Raise, ev_noxN, ev_noxR, ev_Trg, ev_Cat, bd3, g1, g2]) (Rt.ift ?_ (Rt.ret (by simp only [ev_C, ev_Var, ev_Bor, ev_Nl, ev_Bin, ev_Tup, ev_L, ev_Fn, ev_Call, ev_nil, ev_cons, ev_If, ev_And, ev_Or, ev_Not, ev_cAnd, ev_cOr, ev_cNot, ev_cB, ev_cTr, ev_toB, ev_IsN, ev_NotN, ev_isN_non, ev_isN_int, ev_isN_str, ev_isN_tup, ev_isN_bl, ev_MulL, ev_MulR, ev_DivC, ev_ModC, ev_Neg, ev_addI, ev_subI, ev_ltI, ev_leI, ev_gtI, ev_geI, ev_eqI, ev_neI, ev_eqS, ev_neS, ev_eqN, ev_neN, ev_eqNI, ev_neNI, ev_eqIN, ev_neIN, ev_eqB, ev_neB, ev_isB, ev_notB, ev_absI, ev_min2, ev_max2, ev_lenT, ev_lenL, ev_lenS, ev_tupL, ev_tupT, ev_intI, ev_intB, ev_ixT, ev_ixL, ev_ixS, at0, at1, at2, at3, atM1, ev_seq, ev_set, ev_own, ev_ret, ev_drop, ev_sIf, ev_for, ev_frz, ev_asg, ev_par2, ev_par3, ev_mVal, ev_mOwn, ev_app, ev_setv, ev_sets0, ev_sets1, ev_stv, ev_bnm, ev_btp, ev_bl0, ev_bl1, ev_R1, ev_R2, ev_iL, ev_iT, ev_itL, ev_itT, ev_forNil, ev_nolI, ev_nolN, ev_nolS, ev_nolB, ev_nolT, ev_nolL0, ev_nolL1, ev_cTrue, ev_wipe, Rz.bind_ok, Rz.bind_exc, Rz.bind_bad, Rz.ofO_some, Rz.ofO_none, onR_ok, onR_exc, onR_bad, onO_some, onO_none, List.getElem?_cons_zero, List.getElem?_cons_succ, ite_true, ite_false, if_true, if_false, reduceIte, Nat.reduceEqDiff, reduceCtorEq, Option.map_some, Option.bind_some, List.cons_append, List.nil_append, Option.map_none, Bool.false_eq_true, Bool.not_true, Bool.not_false, decide_true, decide_false, decide_eq_true_eq, beq_self_eq_true, ev_iSq, ev_itS1, ev_itS2, ev_itS3, ev_itS4, ev_iEn, ev_enS1, ev_enS2, ev_iZp, ev_zpS1, ev_zpS2, ev_Ch, ev_Sl, ev_O0, ev_O1, ev_iO, ev_slT, ev_slL, ev_Rg, ev_Rg3, ev_Ls, ev_lsT, ev_lsL, ev_Isi, ev_Isi2, ev_Rev, ev_revT, ev_Wk, ev_wkN, ev_wkT, ev_tupN, ev_CntT, ev_ctT, ev_IxT, ev_ixT', ev_IxL, ev_ixL', ev_Cnt, ev_ctL, ev_Dic, ev_dg, ev_Sub, ev_Ext, ev_trI, ev_trT, ev_trL, ev_MmD, eq_self, ev_IsE, ev_CallH, ev_unN, ev_unR, ev_TryA, ev_Try, ev_exN, ev_exR, ev_exE, ev_tyN, ev_tyR, ev_tyE, ev_Raise, ev_noxN, ev_noxR, ev_Trg, ev_Cat])))))⟩
      · cases p <;> cases q <;> cases r <;> cases s <;> simp at w <;> simp only [ev_C, ev_Var, ev_Bor, ev_Nl, ev_Bin, ev_Tup, ev_L, ev_Fn, ev_Call, ev_nil, ev_cons, ev_If, ev_And, ev_Or, ev_Not, ev_cAnd, ev_cOr, ev_cNot, ev_cB, ev_cTr, ev_toB, ev_IsN, ev_NotN, ev_isN_non, ev_isN_int, ev_isN_str, ev_isN_tup, ev_isN_bl, ev_MulL, ev_MulR, ev_DivC, ev_ModC, ev_Neg, ev_addI, ev_subI, ev_ltI, ev_leI, ev_gtI, ev_geI, ev_eqI, ev_neI, ev_eqS, ev_neS, ev_eqN, ev_neN, ev_eqNI, ev_neNI, ev_eqIN, ev_neIN, ev_eqB, ev_neB, ev_isB, ev_notB, ev_absI, ev_min2, ev_max2, ev_lenT, ev_lenL, ev_lenS, ev_tupL, ev_tupT, ev_intI, ev_intB, ev_ixT, ev_ixL, ev_ixS, at0, at1, at2, at3, atM1, ev_seq, ev_set, ev_own, ev_ret, ev_drop, ev_sIf, ev_for, ev_frz, ev_asg, ev_par2, ev_par3, ev_mVal, ev_mOwn, ev_app, ev_setv, ev_sets0, ev_sets1, ev_stv, ev_bnm, ev_btp, ev_bl0, ev_bl1, ev_R1, ev_R2, ev_iL, ev_iT, ev_itL, ev_itT, ev_forNil, ev_nolI, ev_nolN, ev_nolS, ev_nolB, ev_nolT, ev_nolL0, ev_nolL1, ev_cTrue, ev_wipe, Rz.bind_ok, Rz.bind_exc, Rz.bind_bad, Rz.ofO_some, Rz.ofO_none, onR_ok, onR_exc, onR_bad, onO_some, onO_none, List.getElem?_cons_zero, List.getElem?_cons_succ, ite_true, ite_false, if_true, if_false, reduceIte, Nat.reduceEqDiff, reduceCtorEq, Option.map_some, Option.bind_some, List.cons_append, List.nil_append, Option.map_none, Bool.false_eq_true, Bool.not_true, Bool.not_false, decide_true, decide_false, decide_eq_true_eq, beq_self_eq_true, ev_iSq, ev_itS1, ev_itS2, ev_itS3, ev_itS4, ev_iEn, ev_enS1, ev_enS2, ev_iZp, ev_zpS1, ev_zpS2, ev_Ch, ev_Sl, ev_O0, ev_O1, ev_iO, ev_slT, ev_slL, ev_Rg, ev_Rg3, ev_Ls, ev_lsT, ev_lsL, ev_Isi, ev_Isi2, ev_Rev, ev_revT, ev_Wk, ev_wkN, ev_wkT, ev_tupN, ev_CntT, ev_ctT, ev_IxT, ev_ixT', ev_IxL, ev_ixL', ev_Cnt, ev_ctL, ev_Dic, ev_dg, ev_Sub, ev_Ext, ev_trI, ev_trT, ev_trL, ev_MmD, eq_self, ev_IsE, ev_CallH, ev_unN, ev_unR, ev_TryA, ev_Try, ev_exN, ev_exR, ev_exE, ev_tyN, ev_tyR, ev_tyE, ev_Raise, ev_noxN, ev_noxR, ev_Trg, ev_Cat, l, hp, hq, hr, hs]
      · cases p <;> cases q <;> cases r <;> cases s <;> simp at w <;> simp only [ev_C, ev_Var, ev_Bor, ev_Nl, ev_Bin, ev_Tup, ev_L, ev_Fn, ev_Call, ev_nil, ev_cons, ev_If, ev_And, ev_Or, ev_Not, ev_cAnd, ev_cOr, ev_cNot, ev_cB, ev_cTr, ev_toB, ev_IsN, ev_NotN, ev_isN_non, ev_isN_int, ev_isN_str, ev_isN_tup, ev_isN_bl, ev_MulL, ev_MulR, ev_DivC, ev_ModC, ev_Neg, ev_addI, ev_subI, ev_ltI, ev_leI, ev_gtI, ev_geI, ev_eqI, ev_neI, ev_eqS, ev_neS, ev_eqN, ev_neN, ev_eqNI, ev_neNI, ev_eqIN, ev_neIN, ev_eqB, ev_neB, ev_isB, ev_notB, ev_absI, ev_min2, ev_max2, ev_lenT, ev_lenL, ev_lenS, ev_tupL, ev_tupT, ev_intI, ev_intB, ev_ixT, ev_ixL, ev_ixS, at0, at1, at2, at3, atM1, ev_seq, ev_set, ev_own, ev_ret, ev_drop, ev_sIf, ev_for, ev_frz, ev_asg, ev_par2, ev_par3, ev_mVal, ev_mOwn, ev_app, ev_setv, ev_sets0, ev_sets1, ev_stv, ev_bnm, ev_btp, ev_bl0, ev_bl1, ev_R1, ev_R2, ev_iL, ev_iT, ev_itL, ev_itT, ev_forNil, ev_nolI, ev_nolN, ev_nolS, ev_nolB, ev_nolT, ev_nolL0, ev_nolL1, ev_cTrue, ev_wipe, Rz.bind_ok, Rz.bind_exc, Rz.bind_bad, Rz.ofO_some, Rz.ofO_none, onR_ok, onR_exc, onR_bad, onO_some, onO_none, List.getElem?_cons_zero, List.getElem?_cons_succ, ite_true, ite_false, if_true, if_false, reduceIte, Nat.reduceEqDiff, reduceCtorEq, Option.map_some, Option.bind_some, List.cons_append, List.nil_append, Option.map_none, Bool.false_eq_true, Bool.not_true, Bool.not_false, decide_true, decide_false, decide_eq_true_eq, beq_self_eq_true, ev_iSq, ev_itS1, ev_itS2, ev_itS3, ev_itS4, ev_iEn, ev_enS1, ev_enS2, ev_iZp, ev_zpS1, ev_zpS2, ev_Ch, ev_Sl, ev_O0, ev_O1, ev_iO, ev_slT, ev_slL, ev_Rg, ev_Rg3, ev_Ls, ev_lsT, ev_lsL, ev_Isi, ev_Isi2, ev_Rev, ev_revT, ev_Wk, ev_wkN, ev_wkT, ev_tupN, ev_CntT, ev_ctT, ev_IxT, ev_ixT', ev_IxL, ev_ixL', ev_Cnt, ev_ctL, ev_Dic, ev_dg, ev_Sub, ev_Ext, ev_trI, ev_trT, ev_trL, ev_MmD, eq_self, ev_IsE, ev_CallH, ev_unN, ev_unR, ev_TryA, ev_Try, ev_exN, ev_exR, ev_exE, ev_tyN, ev_tyR, ev_tyE, ev_Raise, ev_noxN, ev_noxR, ev_Trg, ev_Cat, bd2, List.length_map, hp, hq, hr, hs]
    · refine ⟨((y == 0) == (z == 0)), fnD_of (Rt.iff (by simp only [ev_C, ev_Var, ev_Bor, ev_Nl, ev_Bin, ev_Tup, ev_L, ev_Fn, ev_Call, ev_nil, ev_cons, ev_If, ev_And, ev_Or, ev_Not, ev_cAnd, ev_cOr, ev_cNot, ev_cB, ev_cTr, ev_toB, ev_IsN, ev_NotN, ev_isN_non, ev_isN_int, ev_isN_str, ev_isN_tup, ev_isN_bl, ev_MulL, ev_MulR, ev_DivC, ev_ModC, ev_Neg, ev_addI, ev_subI, ev_ltI, ev_leI, ev_gtI, ev_geI, ev_eqI, ev_neI, ev_eqS, ev_neS, ev_eqN, ev_neN, ev_eqNI, ev_neNI, ev_eqIN, ev_neIN, ev_eqB, ev_neB, ev_isB, ev_notB, ev_absI, ev_min2, ev_max2, ev_lenT, ev_lenL, ev_lenS, ev_tupL, ev_tupT, ev_intI, ev_intB, ev_ixT, ev_ixL, ev_ixS, at0, at1, at2, at3, atM1, ev_seq, ev_set, ev_own, ev_ret, ev_drop, ev_sIf, ev_for, ev_frz, ev_asg, ev_par2, ev_par3, ev_mVal, ev_mOwn, ev_app, ev_setv, ev_sets0, ev_sets1, ev_stv, ev_bnm, ev_btp, ev_bl0, ev_bl1, ev_R1, ev_R2, ev_iL, ev_iT, ev_itL, ev_itT, ev_forNil, ev_nolI, ev_nolN, ev_nolS, ev_nolB, ev_nolT, ev_nolL0, ev_nolL1, ev_cTrue, ev_wipe, Rz.bind_ok, Rz.bind_exc, Rz.bind_bad, Rz.ofO_some, Rz.ofO_none, onR_ok, onR_exc, onR_bad, onO_some, onO_none, List.getElem?_cons_zero, List.getElem?_cons_succ, ite_true, ite_false, if_true, if_false, reduceIte, Nat.reduceEqDiff, reduceCtorEq, Option.map_some, Option.bind_some, List.cons_append, List.nil_append, Option.map_none, Bool.false_eq_true, Bool.not_true, Bool.not_false, decide_true, decide_false, decide_eq_true_eq, beq_self_eq_true, ev_iSq, ev_itS1, ev_itS2, ev_itS3, ev_itS4, ev_iEn, ev_enS1, ev_enS2, ev_iZp, ev_zpS1, ev_zpS2, ev_Ch, ev_Sl, ev_O0, ev_O1, ev_iO, ev_slT, ev_slL, ev_Rg, ev_Rg3, ev_Ls, ev_lsT, ev_lsL, ev_Isi, ev_Isi2, ev_Rev, ev_revT, ev_Wk, ev_wkN, ev_wkT, ev_tupN, ev_CntT, ev_ctT, ev_IxT, ev_ixT', ev_IxL, ev_ixL', ev_Cnt, ev_ctL, ev_Dic, ev_dg, ev_Sub, ev_Ext, ev_trI, ev_trT, ev_trL, ev_MmD, eq_self, ev_IsE, ev_CallH, ev_unN, ev_unR, ev_TryA, ev_Try, ev_exN, ev_exR, ev_exE, ev_tyN, ev_tyR, ev_tyE, ev_Raise, ev_noxN, ev_noxR, ev_Trg, ev_Cat, it, len3, l, h]) (Rt.iff (by simp only [ev_C, ev_Var, ev_Bor, ev_Nl, ev_Bin, ev_Tup, ev_L, ev_Fn, ev_Call, ev_nil, ev_cons, ev_If, ev_And, ev_Or, ev_Not, ev_cAnd, ev_cOr, ev_cNot, ev_cB, ev_cTr, ev_toB, ev_IsN, ev_NotN, ev_isN_non, ev_isN_int, ev_isN_str, ev_isN_tup, ev_isN_bl, ev_MulL, ev_MulR, ev_DivC, ev_ModC, ev_Neg, ev_addI, ev_subI, ev_ltI, ev_leI, ev_gtI, ev_geI, ev_eqI, ev_neI, ev_eqS, ev_neS, ev_eqN, ev_neN, ev_eqNI, ev_neNI, ev_eqIN, ev_neIN, ev_eqB, ev_neB, ev_isB, ev_notB, ev_absI, ev_min2, ev_max2, ev_lenT, ev_lenL, ev_lenS, ev_tupL, ev_tupT, ev_intI, ev_intB, ev_ixT, ev_ixL, ev_ixS, at0, at1, at2, at3, atM1, ev_seq, ev_set, ev_own, ev_ret, ev_drop, ev_sIf, ev_for, ev_frz, ev_asg, ev_par2, ev_par3, ev_mVal, ev_mOwn, ev_app, ev_setv, ev_sets0, ev_sets1, ev_stv, ev_bnm, ev_btp, ev_bl0, ev_bl1, ev_R1, ev_R2, ev_iL, ev_iT, ev_itL, ev_itT, ev_forNil, ev_nolI, ev_nolN, ev_nolS, ev_nolB, ev_nolT, ev_nolL0, ev_nolL1, ev_cTrue, ev_wipe, Rz.bind_ok, Rz.bind_exc, Rz.bind_bad, Rz.ofO_some, Rz.ofO_none, onR_ok, onR_exc, onR_bad, onO_some, onO_none, List.getElem?_cons_zero, List.getElem?_cons_succ, ite_true, ite_false, if_true, if_false, reduceIte, Nat.reduceEqDiff, reduceCtorEq, Option.map_some, Option.bind_some, List.cons_append, List.nil_append, Option.map_none, Bool.false_eq_true, Bool.not_true, Bool.not_false, decide_true, decide_false, decide_eq_true_eq, beq_self_eq_true, ev_iSq, ev_itS1, ev_itS2, ev_itS3, ev_itS4, ev_iEn, ev_enS1, ev_enS2, ev_iZp, ev_zpS1, ev_zpS2, ev_Ch, ev_Sl, ev_O0, ev_O1, ev_iO, ev_slT, ev_slL, ev_Rg, ev_Rg3, ev_Ls, ev_lsT, ev_lsL, ev_Isi, ev_Isi2, ev_Rev, ev_revT, ev_Wk, ev_wkN, ev_wkT, ev_tupN, ev_CntT, ev_ctT, ev_IxT, ev_ixT', ev_IxL, ev_ixL', ev_Cnt, ev_ctL, ev_Dic, ev_dg, ev_Sub, ev_Ext, ev_trI, ev_trT, ev_trL, ev_MmD, eq_self, ev_IsE, ev_CallH, ev_unN, ev_unR, ev_TryA, ev_Try, ev_exN, ev_exR, ev_exE, ev_tyN, ev_tyR, ev_tyE, ev_Raise, ev_noxN, ev_noxR, ev_Trg, ev_Cat, bd3, h1, h2]) (Rt.iff ?_ (Rt.ret (by simp only [ev_C, ev_Var, ev_Bor, ev_Nl, ev_Bin, ev_Tup, ev_L, ev_Fn, ev_Call, ev_nil, ev_cons, ev_If, ev_And, ev_Or, ev_Not, ev_cAnd, ev_cOr, ev_cNot, ev_cB, ev_cTr, ev_toB, ev_IsN, ev_NotN, ev_isN_non, ev_isN_int, ev_isN_str, ev_isN_tup, ev_isN_bl, ev_MulL, ev_MulR, ev_DivC, ev_ModC, ev_Neg, ev_addI, ev_subI, ev_ltI, ev_leI, ev_gtI, ev_geI, ev_eqI, ev_neI, ev_eqS, ev_neS, ev_eqN, ev_neN, ev_eqNI, ev_neNI, ev_eqIN, ev_neIN, ev_eqB, ev_neB, ev_isB, ev_notB, ev_absI, ev_min2, ev_max2, ev_lenT, ev_lenL, ev_lenS, ev_tupL, ev_tupT, ev_intI, ev_intB, ev_ixT, ev_ixL, ev_ixS, at0, at1, at2, at3, atM1, ev_seq, ev_set, ev_own, ev_ret, ev_drop, ev_sIf, ev_for, ev_frz, ev_asg, ev_par2, ev_par3, ev_mVal, ev_mOwn, ev_app, ev_setv, ev_sets0, ev_sets1, ev_stv, ev_bnm, ev_btp, ev_bl0, ev_bl1, ev_R1, ev_R2, ev_iL, ev_iT, ev_itL, ev_itT, ev_forNil, ev_nolI, ev_nolN, ev_nolS, ev_nolB, ev_nolT, ev_nolL0, ev_nolL1, ev_cTrue, ev_wipe, Rz.bind_ok, Rz.bind_exc, Rz.bind_bad, Rz.ofO_some, Rz.ofO_none, onR_ok, onR_exc, onR_bad, onO_some, onO_none, List.getElem?_cons_zero, List.getElem?_cons_succ, ite_true, ite_false, if_true, if_false, reduceIte, Nat.reduceEqDiff, reduceCtorEq, Option.map_some, Option.bind_some, List.cons_append, List.nil_append, Option.map_none, Bool.false_eq_true, Bool.not_true, Bool.not_false, decide_true, decide_false, decide_eq_true_eq, beq_self_eq_true, ev_iSq, ev_itS1, ev_itS2, ev_itS3, ev_itS4, ev_iEn, ev_enS1, ev_enS2, ev_iZp, ev_zpS1, ev_zpS2, ev_Ch, ev_Sl, ev_O0, ev_O1, ev_iO, ev_slT, ev_slL, ev_Rg, ev_Rg3, ev_Ls, ev_lsT, ev_lsL, ev_Isi, ev_Isi2, ev_Rev, ev_revT, ev_Wk, ev_wkN, ev_wkT, ev_tupN, ev_CntT, ev_ctT, ev_IxT, ev_ixT', ev_IxL, ev_ixL', ev_Cnt, ev_ctL, ev_Dic, ev_dg, ev_Sub, ev_Ext, ev_trI, ev_trT, ev_trL, ev_MmD, eq_self, ev_IsE, ev_CallH, ev_unN, ev_unR, ev_TryA, ev_Try, ev_exN, ev_exR, ev_exE, ev_tyN, ev_tyR, ev_tyE, ev_Raise, ev_noxN, ev_noxR, ev_Trg, ev_Cat]))))), fnD_of (Rt.iff (by simp only [ev_C, ev_Var, ev_Bor, ev_Nl, ev_Bin, ev_Tup, ev_L, ev_Fn, ev_Call, ev_nil, ev_cons, ev_If, ev_And, ev_Or, ev_Not, ev_cAnd, ev_cOr, ev_cNot, ev_cB, ev_cTr, ev_toB, ev_IsN, ev_NotN, ev_isN_non, ev_isN_int, ev_isN_str, ev_isN_tup, ev_isN_bl, ev_MulL, ev_MulR, ev_DivC, ev_ModC, ev_Neg, ev_addI, ev_subI, ev_ltI, ev_leI, ev_gtI, ev_geI, ev_eqI, ev_neI, ev_eqS, ev_neS, ev_eqN, ev_neN, ev_eqNI, ev_neNI, ev_eqIN, ev_neIN, ev_eqB, ev_neB, ev_isB, ev_notB, ev_absI, ev_min2, ev_max2, ev_lenT, ev_lenL, ev_lenS, ev_tupL, ev_tupT, ev_intI, ev_intB, ev_ixT, ev_ixL, ev_ixS, at0, at1, at2, at3, atM1, ev_seq, ev_set, ev_own, ev_ret, ev_drop, ev_sIf, ev_for, ev_frz, ev_asg, ev_par2, ev_par3, ev_mVal, ev_mOwn, ev_app, ev_setv, ev_sets0, ev_sets1, ev_stv, ev_bnm, ev_btp, ev_bl0, ev_bl1, ev_R1, ev_R2, ev_iL, ev_iT, ev_itL, ev_itT, ev_forNil, ev_nolI, ev_nolN, ev_nolS, ev_nolB, ev_nolT, ev_nolL0, ev_nolL1, ev_cTrue, ev_wipe, Rz.bind_ok, Rz.bind_exc, Rz.bind_bad, Rz.ofO_some, Rz.ofO_none, onR_ok, onR_exc, onR_bad, onO_some, onO_none, List.getElem?_cons_zero, List.getElem?_cons_succ, ite_true, ite_false, if_true, if_false, reduceIte, Nat.reduceEqDiff, reduceCtorEq, Option.map_some, Option.bind_some, List.cons_append, List.nil_append, Option.map_none, Bool.false_eq_true, Bool.not_true, Bool.not_false, decide_true, decide_false, decide_eq_true_eq, beq_self_eq_true, ev_iSq, ev_itS1, ev_itS2, ev_itS3, ev_itS4, ev_iEn, ev_enS1, ev_enS2, ev_iZp, ev_zpS1, ev_zpS2, ev_Ch, ev_Sl, ev_O0, ev_O1, ev_iO, ev_slT, ev_slL, ev_Rg, ev_Rg3, ev_Ls, ev_lsT, ev_lsL, ev_Isi, ev_Isi2, ev_Rev, ev_revT, ev_Wk, ev_wkN, ev_wkT, ev_tupN, ev_CntT, ev_ctT, ev_IxT, ev_ixT', ev_IxL, ev_ixL', ev_Cnt, ev_ctL, ev_Dic, ev_dg, ev_Sub, ev_Ext, ev_trI, ev_trT, ev_trL, ev_MmD, eq_self, ev_IsE, ev_CallH, ev_unN, ev_unR, ev_TryA, ev_Try, ev_exN, ev_exR, ev_exE, ev_tyN, ev_tyR, ev_tyE, ev_Raise, ev_noxN, ev_noxR, ev_Trg, ev_Cat, it, len3, bd2, List.length_map, g]) (Rt.iff (by simp only [ev_C, ev_Var, ev_Bor, ev_Nl, ev_Bin, ev_Tup, ev_L, ev_Fn, ev_Call, ev_nil, ev_cons, ev_If, ev_And, ev_Or, ev_Not, ev_cAnd, ev_cOr, ev_cNot, ev_cB, ev_cTr, ev_toB, ev_IsN, ev_NotN, ev_isN_non, ev_isN_int, ev_isN_str, ev_isN_tup, ev_isN_bl, ev_MulL, ev_MulR, ev_DivC, ev_ModC, ev_Neg, ev_addI, ev_subI, ev_ltI, ev_leI, ev_gtI, ev_geI, ev_eqI, ev_neI, ev_eqS, ev_neS, ev_eqN, ev_neN, ev_eqNI, ev_neNI, ev_eqIN, ev_neIN, ev_eqB, ev_neB, ev_isB, ev_notB, ev_absI, ev_min2, ev_max2, ev_lenT, ev_lenL, ev_lenS, ev_tupL, ev_tupT, ev_intI, ev_intB, ev_ixT, ev_ixL, ev_ixS, at0, at1, at2, at3, atM1, ev_seq, ev_set, ev_own, ev_ret, ev_drop, ev_sIf, ev_for, ev_frz, ev_asg, ev_par2, ev_par3, ev_mVal, ev_mOwn, ev_app, ev_setv, ev_sets0, ev_sets1, ev_stv, ev_bnm, ev_btp, ev_bl0, ev_bl1, ev_R1, ev_R2, ev_iL, ev_iT, ev_itL, ev_itT, ev_forNil, ev_nolI, ev_nolN, ev_nolS, ev_nolB, ev_nolT, ev_nolL0, ev_nolL1, ev_cTrue, ev_wipe, Rz.bind_ok, Rz.bind_exc, Rz.bind_bad, Rz.ofO_some, Rz.ofO_none, onR_ok, onR_exc, onR_bad, onO_some, onO_none, List.getElem?_cons_zero, List.getElem?_cons_succ, ite_true, ite_false, if_true, if_false, reduceIte, Nat.reduceEqDiff, reduceCtorEq, Option.map_some, Option.bind_some, List.cons_append, List.nil_append, Option.map_none, Bool.false_eq_true, Bool.not_true, Bool.not_false, decide_true, decide_false, decide_eq_true_eq, beq_self_eq_true, ev_iSq, ev_itS1, ev_itS2, ev_itS3, ev_itS4, ev_iEn, ev_enS1, ev_enS2, ev_iZp, ev_zpS1, ev_zpS2, ev_Ch, ev_Sl, ev_O0, ev_O1, ev_iO, ev_slT, ev_slL, ev_Rg, ev_Rg3, ev_Ls, ev_lsT, ev_lsL, ev_Isi, ev_Isi2, ev_Rev, ev_revT, ev_Wk, ev_wkN, ev_wkT, ev_tupN, ev_CntT, ev_ctT, ev_IxT, ev_ixT', ev_IxL, ev_ixL', ev_Cnt, ev_ctL, ev_Dic, ev_dg, ev_Sub, ev_Ext, ev_trI, ev_trT, ev_trL, ev_MmD, eq_self, ev_IsE, ev_CallH, ev_unN, ev_unR, ev_TryA, ev_Try, ev_exN, ev_exR, ev_exE, ev_tyN, ev_tyR, ev_tyE, ev_Raise, ev_noxN, ev_noxR, ev_Trg, ev_Cat, bd3, g1, g2]) (Rt.iff ?_ (Rt.ret (by simp only [ev_C, ev_Var, ev_Bor, ev_Nl, ev_Bin, ev_Tup, ev_L, ev_Fn, ev_Call, ev_nil, ev_cons, ev_If, ev_And, ev_Or, ev_Not, ev_cAnd, ev_cOr, ev_cNot, ev_cB, ev_cTr, ev_toB, ev_IsN, ev_NotN, ev_isN_non, ev_isN_int, ev_isN_str, ev_isN_tup, ev_isN_bl, ev_MulL, ev_MulR, ev_DivC, ev_ModC, ev_Neg, ev_addI, ev_subI, ev_ltI, ev_leI, ev_gtI, ev_geI, ev_eqI, ev_neI, ev_eqS, ev_neS, ev_eqN, ev_neN, ev_eqNI, ev_neNI, ev_eqIN, ev_neIN, ev_eqB, ev_neB, ev_isB, ev_notB, ev_absI, ev_min2, ev_max2, ev_lenT, ev_lenL, ev_lenS, ev_tupL, ev_tupT, ev_intI, ev_intB, ev_ixT, ev_ixL, ev_ixS, at0, at1, at2, at3, atM1, ev_seq, ev_set, ev_own, ev_ret, ev_drop, ev_sIf, ev_for, ev_frz, ev_asg, ev_par2, ev_par3, ev_mVal, ev_mOwn, ev_app, ev_setv, ev_sets0, ev_sets1, ev_stv, ev_bnm, ev_btp, ev_bl0, ev_bl1, ev_R1, ev_R2, ev_iL, ev_iT, ev_itL, ev_itT, ev_forNil, ev_nolI, ev_nolN, ev_nolS, ev_nolB, ev_nolT, ev_nolL0, ev_nolL1, ev_cTrue, ev_wipe, Rz.bind_ok, Rz.bind_exc, Rz.bind_bad, Rz.ofO_some, Rz.ofO_none, onR_ok, onR_exc, onR_bad, onO_some, onO_none, List.getElem?_cons_zero, List.getElem?_cons_succ, ite_true, ite_false, if_true, if_false, reduceIte, Nat.reduceEqDiff, reduceCtorEq, Option.map_some, Option.bind_some, List.cons_append, List.nil_append, Option.map_none, Bool.false_eq_true, Bool.not_true, Bool.not_false, decide_true, decide_false, decide_eq_true_eq, beq_self_eq_true, ev_iSq, ev_itS1, ev_itS2, ev_itS3, ev_itS4, ev_iEn, ev_enS1, ev_enS2, ev_iZp, ev_zpS1, ev_zpS2, ev_Ch, ev_Sl, ev_O0, ev_O1, ev_iO, ev_slT, ev_slL, ev_Rg, ev_Rg3, ev_Ls, ev_lsT, ev_lsL, ev_Isi, ev_Isi2, ev_Rev, ev_revT, ev_Wk, ev_wkN, ev_wkT, ev_tupN, ev_CntT, ev_ctT, ev_IxT, ev_ixT', ev_IxL, ev_ixL', ev_Cnt, ev_ctL, ev_Dic, ev_dg, ev_Sub, ev_Ext, ev_trI, ev_trT, ev_trL, ev_MmD, eq_self, ev_IsE, ev_CallH, ev_unN, ev_unR, ev_TryA, ev_Try, ev_exN, ev_exR, ev_exE, ev_tyN, ev_tyR, ev_tyE, ev_Raise, ev_noxN, ev_noxR, ev_Trg, ev_Cat])))))⟩
      · cases p <;> cases q <;> cases r <;> cases s <;> simp at w <;> simp only [ev_C, ev_Var, ev_Bor, ev_Nl, ev_Bin, ev_Tup, ev_L, ev_Fn, ev_Call, ev_nil, ev_cons, ev_If, ev_And, ev_Or, ev_Not, ev_cAnd, ev_cOr, ev_cNot, ev_cB, ev_cTr, ev_toB, ev_IsN, ev_NotN, ev_isN_non, ev_isN_int, ev_isN_str, ev_isN_tup, ev_isN_bl, ev_MulL, ev_MulR, ev_DivC, ev_ModC, ev_Neg, ev_addI, ev_subI, ev_ltI, ev_leI, ev_gtI, ev_geI, ev_eqI, ev_neI, ev_eqS, ev_neS, ev_eqN, ev_neN, ev_eqNI, ev_neNI, ev_eqIN, ev_neIN, ev_eqB, ev_neB, ev_isB, ev_notB, ev_absI, ev_min2, ev_max2, ev_lenT, ev_lenL, ev_lenS, ev_tupL, ev_tupT, ev_intI, ev_intB, ev_ixT, ev_ixL, ev_ixS, at0, at1, at2, at3, atM1, ev_seq, ev_set, ev_own, ev_ret, ev_drop, ev_sIf, ev_for, ev_frz, ev_asg, ev_par2, ev_par3, ev_mVal, ev_mOwn, ev_app, ev_setv, ev_sets0, ev_sets1, ev_stv, ev_bnm, ev_btp, ev_bl0, ev_bl1, ev_R1, ev_R2, ev_iL, ev_iT, ev_itL, ev_itT, ev_forNil, ev_nolI, ev_nolN, ev_nolS, ev_nolB, ev_nolT, ev_nolL0, ev_nolL1, ev_cTrue, ev_wipe, Rz.bind_ok, Rz.bind_exc, Rz.bind_bad, Rz.ofO_some, Rz.ofO_none, onR_ok, onR_exc, onR_bad, onO_some, onO_none, List.getElem?_cons_zero, List.getElem?_cons_succ, ite_true, ite_false, if_true, if_false, reduceIte, Nat.reduceEqDiff, reduceCtorEq, Option.map_some, Option.bind_some, List.cons_append, List.nil_append, Option.map_none, Bool.false_eq_true, Bool.not_true, Bool.not_false, decide_true, decide_false, decide_eq_true_eq, beq_self_eq_true, ev_iSq, ev_itS1, ev_itS2, ev_itS3, ev_itS4, ev_iEn, ev_enS1, ev_enS2, ev_iZp, ev_zpS1, ev_zpS2, ev_Ch, ev_Sl, ev_O0, ev_O1, ev_iO, ev_slT, ev_slL, ev_Rg, ev_Rg3, ev_Ls, ev_lsT, ev_lsL, ev_Isi, ev_Isi2, ev_Rev, ev_revT, ev_Wk, ev_wkN, ev_wkT, ev_tupN, ev_CntT, ev_ctT, ev_IxT, ev_ixT', ev_IxL, ev_ixL', ev_Cnt, ev_ctL, ev_Dic, ev_dg, ev_Sub, ev_Ext, ev_trI, ev_trT, ev_trL, ev_MmD, eq_self, ev_IsE, ev_CallH, ev_unN, ev_unR, ev_TryA, ev_Try, ev_exN, ev_exR, ev_exE, ev_tyN, ev_tyR, ev_tyE, ev_Raise, ev_noxN, ev_noxR, ev_Trg, ev_Cat, l, hp, hq, hr, hs]
      · cases p <;> cases q <;> cases r <;> cases s <;> simp at w <;> simp only [ev_C, ev_Var, ev_Bor, ev_Nl, ev_Bin, ev_Tup, ev_L, ev_Fn, ev_Call, ev_nil, ev_cons, ev_If, ev_And, ev_Or, ev_Not, ev_cAnd, ev_cOr, ev_cNot, ev_cB, ev_cTr, ev_toB, ev_IsN, ev_NotN, ev_isN_non, ev_isN_int, ev_isN_str, ev_isN_tup, ev_isN_bl, ev_MulL, ev_MulR, ev_DivC, ev_ModC, ev_Neg, ev_addI, ev_subI, ev_ltI, ev_leI, ev_gtI, ev_geI, ev_eqI, ev_neI, ev_eqS, ev_neS, ev_eqN, ev_neN, ev_eqNI, ev_neNI, ev_eqIN, ev_neIN, ev_eqB, ev_neB, ev_isB, ev_notB, ev_absI, ev_min2, ev_max2, ev_lenT, ev_lenL, ev_lenS, ev_tupL, ev_tupT, ev_intI, ev_intB, ev_ixT, ev_ixL, ev_ixS, at0, at1, at2, at3, atM1, ev_seq, ev_set, ev_own, ev_ret, ev_drop, ev_sIf, ev_for, ev_frz, ev_asg, ev_par2, ev_par3, ev_mVal, ev_mOwn, ev_app, ev_setv, ev_sets0, ev_sets1, ev_stv, ev_bnm, ev_btp, ev_bl0, ev_bl1, ev_R1, ev_R2, ev_iL, ev_iT, ev_itL, ev_itT, ev_forNil, ev_nolI, ev_nolN, ev_nolS, ev_nolB, ev_nolT, ev_nolL0, ev_nolL1, ev_cTrue, ev_wipe, Rz.bind_ok, Rz.bind_exc, Rz.bind_bad, Rz.ofO_some, Rz.ofO_none, onR_ok, onR_exc, onR_bad, onO_some, onO_none, List.getElem?_cons_zero, List.getElem?_cons_succ, ite_true, ite_false, if_true, if_false, reduceIte, Nat.reduceEqDiff, reduceCtorEq, Option.map_some, Option.bind_some, List.cons_append, List.nil_append, Option.map_none, Bool.false_eq_true, Bool.not_true, Bool.not_false, decide_true, decide_false, decide_eq_true_eq, beq_self_eq_true, ev_iSq, ev_itS1, ev_itS2, ev_itS3, ev_itS4, ev_iEn, ev_enS1, ev_enS2, ev_iZp, ev_zpS1, ev_zpS2, ev_Ch, ev_Sl, ev_O0, ev_O1, ev_iO, ev_slT, ev_slL, ev_Rg, ev_Rg3, ev_Ls, ev_lsT, ev_lsL, ev_Isi, ev_Isi2, ev_Rev, ev_revT, ev_Wk, ev_wkN, ev_wkT, ev_tupN, ev_CntT, ev_ctT, ev_IxT, ev_ixT', ev_IxL, ev_ixL', ev_Cnt, ev_ctL, ev_Dic, ev_dg, ev_Sub, ev_Ext, ev_trI, ev_trT, ev_trL, ev_MmD, eq_self, ev_IsE, ev_CallH, ev_unN, ev_unR, ev_TryA, ev_Try, ev_exN, ev_exR, ev_exE, ev_tyN, ev_tyR, ev_tyE, ev_Raise, ev_noxN, ev_noxR, ev_Trg, ev_Cat, bd2, List.length_map, hp, hq, hr, hs]
  exact key _ _ _ _ rfl rfl rfl rfl
theorem states_eq {k : Nat} {d : D} (h : od k d = true) : ∃ c : Bool, BothS b d c := by
  rcases not_tup h with ⟨ds, rfl, hds, hl⟩ | ht
  case inr => exact ⟨false, bs_nt b ht⟩
  by_cases h4 : ds.length = 3
  case neg => exact ⟨false, bs_len b h4⟩
  match ds, h4, hds with
  | [x, y, z], _, hds =>
    have w0 := whole1 (hds x (by simp)) 0 (b.pw.length - 1)
    have w1 := whole1 (hds y (by simp)) (-1) 1
    have w2 := whole1 (hds z (by simp)) 0 b.wait
    cases q1 : wh x 0 (b.pw.length - 1) with
    | false => rw [q1] at w0; exact ⟨false, bs_0 b w0⟩
    | true =>
      rw [q1] at w0
      by_cases qq : wh y (-1) 1 = true ∧ wh z 0 b.wait = true
      · rw [qq.1] at w1
        rw [qq.2] at w2
        obtain ⟨x', rfl, _⟩ := wh_int q1
        obtain ⟨y', rfl, _⟩ := wh_int qq.1
        obtain ⟨z', rfl, _⟩ := wh_int qq.2
        exact bs_2 b w0 w1 w2
      · refine ⟨false, bs_1 b w0 w1 w2 ?_⟩
        cases z1 : wh y (-1) 1 <;> cases z2 : wh z 0 b.wait <;> simp_all
end
/-! ### odd -/
def pd : Nat → D → Bool
  | 0, _ => false
  | _ + 1, .int _ => true
  | k + 1, .tup ds => ds.all (pd k) && decide (ds.length ≤ 10)
  | _ + 1, _ => false
theorem od_up : ∀ {k : Nat} {d : D}, od k d = true → od (k + 1) d = true
  | 0, _, h => by simp [od] at h
  | _ + 1, .non, _ => by simp [od]
  | _ + 1, .bl _, _ => by simp [od]
  | _ + 1, .int _, _ => by simp [od]
  | _ + 1, .str x, h => by simpa [od] using h
  | k + 1, .tup ds, h => by
    simp only [od, Bool.and_eq_true, List.all_eq_true, decide_eq_true_eq] at h ⊢
    exact ⟨fun x hx => od_up (h.1 x hx), h.2⟩
  | k + 1, .lst ds, h => by
    simp only [od, Bool.and_eq_true, List.all_eq_true, decide_eq_true_eq] at h ⊢
    exact ⟨fun x hx => od_up (h.1 x hx), h.2⟩
  | _ + 1, .scr _, h => by simp [od] at h
  | _ + 1, .obj _, h => by simp [od] at h
  | _ + 1, .ntup _, h => by simp [od] at h
  | _ + 1, .adr _, h => by simp [od] at h
  | _ + 1, .dic _ _, h => by simp [od] at h
theorem pd_od : ∀ {k : Nat} {d : D}, pd k d = true → od k d = true
  | 0, _, h => by simp [pd] at h
  | _ + 1, .int _, _ => by simp [od]
  | k + 1, .tup ds, h => by
    simp only [pd, od, Bool.and_eq_true, List.all_eq_true, decide_eq_true_eq] at h ⊢
    exact ⟨fun x hx => pd_od (h.1 x hx), by omega⟩
  | _ + 1, .non, h => by simp [pd] at h
  | _ + 1, .bl _, h => by simp [pd] at h
  | _ + 1, .str _, h => by simp [pd] at h
  | _ + 1, .lst _, h => by simp [pd] at h
  | _ + 1, .scr _, h => by simp [pd] at h
  | _ + 1, .obj _, h => by simp [pd] at h
  | _ + 1, .ntup _, h => by simp [pd] at h
  | _ + 1, .adr _, h => by simp [pd] at h
  | _ + 1, .dic _ _, h => by simp [pd] at h
theorem mem_cut {α : Type} {xs : List α} {lo hi : Option Int} {x : α} (h : x ∈ cutL xs lo hi) : x ∈ xs := List.mem_of_mem_drop (List.mem_of_mem_take h)
theorem len_cut {α : Type} (xs : List α) (lo hi : Option Int) : (cutL xs lo hi).length ≤ xs.length := by
  unfold cutL
  rw [List.length_take, List.length_drop]
  omega
theorem addL {a c : List D} (h : a.length + c.length ≤ 1000000) : addD (.lst a) (.lst c) = some (.lst (a ++ c)) := by
  show (if _ then _ else _) = _
  rw [if_pos (by rw [sizeLine_eq]; omega)]
def kon : List D := [.non, .bl true, .bl false, .int 0, .int 1, .int (-1), .int 2, .int 7, .int 10, .int 1000, .str "", .str "a", .str "A", .tup [], .tup [.str "a"], .lst [.int 1]]
theorem kon_od : ∀ d ∈ kon, od 2 d = true := by
  intro d hd
  unfold kon at hd
  simp only [List.mem_cons, List.not_mem_nil, or_false] at hd
  rcases hd with rfl | rfl | rfl | rfl | rfl | rfl | rfl | rfl | rfl | rfl | rfl | rfl | rfl | rfl | rfl | rfl <;> first | rfl | (simp only [od]; decide +kernel)
theorem mem_rpt {α : Type} {xs : List α} {k : Int} {x : α} (h : x ∈ rpt k xs) : x ∈ xs := by
  unfold rpt at h
  obtain ⟨l, hl, hx⟩ := List.mem_flatten.mp h
  rw [(List.mem_replicate.mp hl).2] at hx
  exact hx
theorem rpt_len {α : Type} (xs : List α) : (rpt 2 xs).length = xs.length + xs.length := by
  show (List.replicate 2 xs).flatten.length = _
  simp [List.replicate]
theorem od_le {k m : Nat} {d : D} (h : k ≤ m) (o : od k d = true) : od m d = true := by
  induction h with
  | refl => exact o
  | step _ ih => exact od_up ih
/-- the last line of _law_odd -/
theorem odd_pick {k : Nat} {L : List D} (hL : ∀ d ∈ L, od k d = true) (h1 : 0 < L.length) (c : Int) {e : En} (he1 : e.v 1 = .val (.int c)) (he3 : e.v 3 = .val (.lst L)) : ∃ r, Rt (sRet (eBin ixD (eVar 3) (eCall F_law_mix [(eVar 1), (eC (.int 9749)), (eFn lenD [(eVar 3)])])) e) r ∧ od k r = true := by
  have m1 := F_law_mix_eq (c := c) (p := 9749) (m := L.length) (by decide) (by decide) (by omega)
  have j0 := mixM_lo (c := c) (p := 9749) (m := L.length) (by omega)
  have j1 := mixM_hi (c := c) (p := 9749) (m := L.length) (by omega)
  obtain ⟨y, hy, hyA⟩ : ∃ y, atI L (mixM c 9749 L.length) = some y ∧ od k y = true := by
    rw [at_nat _ _ j0 j1]
    exact ⟨_, rfl, hL _ (List.getElem_mem _)⟩
  exact ⟨y, Rt.ret (by simp only [ev_C, ev_Var, ev_Bor, ev_Nl, ev_Bin, ev_Tup, ev_L, ev_Fn, ev_Call, ev_nil, ev_cons, ev_If, ev_And, ev_Or, ev_Not, ev_cAnd, ev_cOr, ev_cNot, ev_cB, ev_cTr, ev_toB, ev_IsN, ev_NotN, ev_isN_non, ev_isN_int, ev_isN_str, ev_isN_tup, ev_isN_bl, ev_MulL, ev_MulR, ev_DivC, ev_ModC, ev_Neg, ev_addI, ev_subI, ev_ltI, ev_leI, ev_gtI, ev_geI, ev_eqI, ev_neI, ev_eqS, ev_neS, ev_eqN, ev_neN, ev_eqNI, ev_neNI, ev_eqIN, ev_neIN, ev_eqB, ev_neB, ev_isB, ev_notB, ev_absI, ev_min2, ev_max2, ev_lenT, ev_lenL, ev_lenS, ev_tupL, ev_tupT, ev_intI, ev_intB, ev_ixT, ev_ixL, ev_ixS, at0, at1, at2, at3, atM1, ev_seq, ev_set, ev_own, ev_ret, ev_drop, ev_sIf, ev_for, ev_frz, ev_asg, ev_par2, ev_par3, ev_mVal, ev_mOwn, ev_app, ev_setv, ev_sets0, ev_sets1, ev_stv, ev_bnm, ev_btp, ev_bl0, ev_bl1, ev_R1, ev_R2, ev_iL, ev_iT, ev_itL, ev_itT, ev_forNil, ev_nolI, ev_nolN, ev_nolS, ev_nolB, ev_nolT, ev_nolL0, ev_nolL1, ev_cTrue, ev_wipe, Rz.bind_ok, Rz.bind_exc, Rz.bind_bad, Rz.ofO_some, Rz.ofO_none, onR_ok, onR_exc, onR_bad, onO_some, onO_none, List.getElem?_cons_zero, List.getElem?_cons_succ, ite_true, ite_false, if_true, if_false, reduceIte, Nat.reduceEqDiff, reduceCtorEq, Option.map_some, Option.bind_some, List.cons_append, List.nil_append, Option.map_none, Bool.false_eq_true, Bool.not_true, Bool.not_false, decide_true, decide_false, decide_eq_true_eq, beq_self_eq_true, ev_iSq, ev_itS1, ev_itS2, ev_itS3, ev_itS4, ev_iEn, ev_enS1, ev_enS2, ev_iZp, ev_zpS1, ev_zpS2, ev_Ch, ev_Sl, ev_O0, ev_O1, ev_iO, ev_slT, ev_slL, ev_Rg, ev_Rg3, ev_Ls, ev_lsT, ev_lsL, ev_Isi, ev_Isi2, ev_Rev, ev_revT, ev_Wk, ev_wkN, ev_wkT, ev_tupN, ev_CntT, ev_ctT, ev_IxT, ev_ixT', ev_IxL, ev_ixL', ev_Cnt, ev_ctL, ev_Dic, ev_dg, ev_Sub, ev_Ext, ev_trI, ev_trT, ev_trL, ev_MmD, eq_self, ev_IsE, ev_CallH, ev_unN, ev_unR, ev_TryA, ev_Try, ev_exN, ev_exR, ev_exE, ev_tyN, ev_tyR, ev_tyE, ev_Raise, ev_noxN, ev_noxR, ev_Trg, ev_Cat, he1, he3, m1, hy]), hyA⟩
theorem odd_int (f : Nat) (i c : Int) : ∃ r, F_law_odd (f + 1) [.int i, .int c] = .ok r ∧ od 3 r = true := by
  have u1 : isiG "str" (.int i) = some false := by simp [isiG]
  have R := ev_repL (ds := [.int (i + 1), .int (i - 1), .int (0 - i), .tup [.int i], .int (i + 2), .int (i * 2)]) (k := 2) (by simp) (by decide) (by decide)
  have A := addL (a := kon) (c := rpt 2 [.int (i + 1), .int (i - 1), .int (0 - i), .tup [.int i], .int (i + 2), .int (i * 2)]) (by rw [rpt_len]; simp [kon])
  obtain ⟨r, h1, h2⟩ := odd_pick (k := 3) (L := kon ++ rpt 2 [.int (i + 1), .int (i - 1), .int (0 - i), .tup [.int i], .int (i + 2), .int (i * 2)]) (fun d hd => by
    rcases List.mem_append.mp hd with hd | hd
    · exact od_up (kon_od d hd)
    · have := mem_rpt hd
      simp only [List.mem_cons, List.not_mem_nil, or_false] at this
      rcases this with rfl | rfl | rfl | rfl | rfl | rfl <;> simp [od]) (by simp [kon]) c (e := (((En.st [.int i, .int c]).set 3 (.val (.lst kon))).set 3 (.val (.lst (kon ++ rpt 2 [.int (i + 1), .int (i - 1), .int (0 - i), .tup [.int i], .int (i + 2), .int (i * 2)]))))) (by simp only [ev_C, ev_Var, ev_Bor, ev_Nl, ev_Bin, ev_Tup, ev_L, ev_Fn, ev_Call, ev_nil, ev_cons, ev_If, ev_And, ev_Or, ev_Not, ev_cAnd, ev_cOr, ev_cNot, ev_cB, ev_cTr, ev_toB, ev_IsN, ev_NotN, ev_isN_non, ev_isN_int, ev_isN_str, ev_isN_tup, ev_isN_bl, ev_MulL, ev_MulR, ev_DivC, ev_ModC, ev_Neg, ev_addI, ev_subI, ev_ltI, ev_leI, ev_gtI, ev_geI, ev_eqI, ev_neI, ev_eqS, ev_neS, ev_eqN, ev_neN, ev_eqNI, ev_neNI, ev_eqIN, ev_neIN, ev_eqB, ev_neB, ev_isB, ev_notB, ev_absI, ev_min2, ev_max2, ev_lenT, ev_lenL, ev_lenS, ev_tupL, ev_tupT, ev_intI, ev_intB, ev_ixT, ev_ixL, ev_ixS, at0, at1, at2, at3, atM1, ev_seq, ev_set, ev_own, ev_ret, ev_drop, ev_sIf, ev_for, ev_frz, ev_asg, ev_par2, ev_par3, ev_mVal, ev_mOwn, ev_app, ev_setv, ev_sets0, ev_sets1, ev_stv, ev_bnm, ev_btp, ev_bl0, ev_bl1, ev_R1, ev_R2, ev_iL, ev_iT, ev_itL, ev_itT, ev_forNil, ev_nolI, ev_nolN, ev_nolS, ev_nolB, ev_nolT, ev_nolL0, ev_nolL1, ev_cTrue, ev_wipe, Rz.bind_ok, Rz.bind_exc, Rz.bind_bad, Rz.ofO_some, Rz.ofO_none, onR_ok, onR_exc, onR_bad, onO_some, onO_none, List.getElem?_cons_zero, List.getElem?_cons_succ, ite_true, ite_false, if_true, if_false, reduceIte, Nat.reduceEqDiff, reduceCtorEq, Option.map_some, Option.bind_some, List.cons_append, List.nil_append, Option.map_none, Bool.false_eq_true, Bool.not_true, Bool.not_false, decide_true, decide_false, decide_eq_true_eq, beq_self_eq_true, ev_iSq, ev_itS1, ev_itS2, ev_itS3, ev_itS4, ev_iEn, ev_enS1, ev_enS2, ev_iZp, ev_zpS1, ev_zpS2, ev_Ch, ev_Sl, ev_O0, ev_O1, ev_iO, ev_slT, ev_slL, ev_Rg, ev_Rg3, ev_Ls, ev_lsT, ev_lsL, ev_Isi, ev_Isi2, ev_Rev, ev_revT, ev_Wk, ev_wkN, ev_wkT, ev_tupN, ev_CntT, ev_ctT, ev_IxT, ev_ixT', ev_IxL, ev_ixL', ev_Cnt, ev_ctL, ev_Dic, ev_dg, ev_Sub, ev_Ext, ev_trI, ev_trT, ev_trL, ev_MmD, eq_self, ev_IsE, ev_CallH, ev_unN, ev_unR, ev_TryA, ev_Try, ev_exN, ev_exR, ev_exE, ev_tyN, ev_tyR, ev_tyE, ev_Raise, ev_noxN, ev_noxR, ev_Trg, ev_Cat]) (by simp only [ev_C, ev_Var, ev_Bor, ev_Nl, ev_Bin, ev_Tup, ev_L, ev_Fn, ev_Call, ev_nil, ev_cons, ev_If, ev_And, ev_Or, ev_Not, ev_cAnd, ev_cOr, ev_cNot, ev_cB, ev_cTr, ev_toB, ev_IsN, ev_NotN, ev_isN_non, ev_isN_int, ev_isN_str, ev_isN_tup, ev_isN_bl, ev_MulL, ev_MulR, ev_DivC, ev_ModC, ev_Neg, ev_addI, ev_subI, ev_ltI, ev_leI, ev_gtI, ev_geI, ev_eqI, ev_neI, ev_eqS, ev_neS, ev_eqN, ev_neN, ev_eqNI, ev_neNI, ev_eqIN, ev_neIN, ev_eqB, ev_neB, ev_isB, ev_notB, ev_absI, ev_min2, ev_max2, ev_lenT, ev_lenL, ev_lenS, ev_tupL, ev_tupT, ev_intI, ev_intB, ev_ixT, ev_ixL, ev_ixS, at0, at1, at2, at3, atM1, ev_seq, ev_set, ev_own, ev_ret, ev_drop, ev_sIf, ev_for, ev_frz, ev_asg, ev_par2, ev_par3, ev_mVal, ev_mOwn, ev_app, ev_setv, ev_sets0, ev_sets1, ev_stv, ev_bnm, ev_btp, ev_bl0, ev_bl1, ev_R1, ev_R2, ev_iL, ev_iT, ev_itL, ev_itT, ev_forNil, ev_nolI, ev_nolN, ev_nolS, ev_nolB, ev_nolT, ev_nolL0, ev_nolL1, ev_cTrue, ev_wipe, Rz.bind_ok, Rz.bind_exc, Rz.bind_bad, Rz.ofO_some, Rz.ofO_none, onR_ok, onR_exc, onR_bad, onO_some, onO_none, List.getElem?_cons_zero, List.getElem?_cons_succ, ite_true, ite_false, if_true, if_false, reduceIte, Nat.reduceEqDiff, reduceCtorEq, Option.map_some, Option.bind_some, List.cons_append, List.nil_append, Option.map_none, Bool.false_eq_true, Bool.not_true, Bool.not_false, decide_true, decide_false, decide_eq_true_eq, beq_self_eq_true, ev_iSq, ev_itS1, ev_itS2, ev_itS3, ev_itS4, ev_iEn, ev_enS1, ev_enS2, ev_iZp, ev_zpS1, ev_zpS2, ev_Ch, ev_Sl, ev_O0, ev_O1, ev_iO, ev_slT, ev_slL, ev_Rg, ev_Rg3, ev_Ls, ev_lsT, ev_lsL, ev_Isi, ev_Isi2, ev_Rev, ev_revT, ev_Wk, ev_wkN, ev_wkT, ev_tupN, ev_CntT, ev_ctT, ev_IxT, ev_ixT', ev_IxL, ev_ixL', ev_Cnt, ev_ctL, ev_Dic, ev_dg, ev_Sub, ev_Ext, ev_trI, ev_trT, ev_trL, ev_MmD, eq_self, ev_IsE, ev_CallH, ev_unN, ev_unR, ev_TryA, ev_Try, ev_exN, ev_exR, ev_exE, ev_tyN, ev_tyR, ev_tyE, ev_Raise, ev_noxN, ev_noxR, ev_Trg, ev_Cat])
  refine ⟨r, fnD_of (Rt.iff (by simp only [ev_C, ev_Var, ev_Bor, ev_Nl, ev_Bin, ev_Tup, ev_L, ev_Fn, ev_Call, ev_nil, ev_cons, ev_If, ev_And, ev_Or, ev_Not, ev_cAnd, ev_cOr, ev_cNot, ev_cB, ev_cTr, ev_toB, ev_IsN, ev_NotN, ev_isN_non, ev_isN_int, ev_isN_str, ev_isN_tup, ev_isN_bl, ev_MulL, ev_MulR, ev_DivC, ev_ModC, ev_Neg, ev_addI, ev_subI, ev_ltI, ev_leI, ev_gtI, ev_geI, ev_eqI, ev_neI, ev_eqS, ev_neS, ev_eqN, ev_neN, ev_eqNI, ev_neNI, ev_eqIN, ev_neIN, ev_eqB, ev_neB, ev_isB, ev_notB, ev_absI, ev_min2, ev_max2, ev_lenT, ev_lenL, ev_lenS, ev_tupL, ev_tupT, ev_intI, ev_intB, ev_ixT, ev_ixL, ev_ixS, at0, at1, at2, at3, atM1, ev_seq, ev_set, ev_own, ev_ret, ev_drop, ev_sIf, ev_for, ev_frz, ev_asg, ev_par2, ev_par3, ev_mVal, ev_mOwn, ev_app, ev_setv, ev_sets0, ev_sets1, ev_stv, ev_bnm, ev_btp, ev_bl0, ev_bl1, ev_R1, ev_R2, ev_iL, ev_iT, ev_itL, ev_itT, ev_forNil, ev_nolI, ev_nolN, ev_nolS, ev_nolB, ev_nolT, ev_nolL0, ev_nolL1, ev_cTrue, ev_wipe, Rz.bind_ok, Rz.bind_exc, Rz.bind_bad, Rz.ofO_some, Rz.ofO_none, onR_ok, onR_exc, onR_bad, onO_some, onO_none, List.getElem?_cons_zero, List.getElem?_cons_succ, ite_true, ite_false, if_true, if_false, reduceIte, Nat.reduceEqDiff, reduceCtorEq, Option.map_some, Option.bind_some, List.cons_append, List.nil_append, Option.map_none, Bool.false_eq_true, Bool.not_true, Bool.not_false, decide_true, decide_false, decide_eq_true_eq, beq_self_eq_true, ev_iSq, ev_itS1, ev_itS2, ev_itS3, ev_itS4, ev_iEn, ev_enS1, ev_enS2, ev_iZp, ev_zpS1, ev_zpS2, ev_Ch, ev_Sl, ev_O0, ev_O1, ev_iO, ev_slT, ev_slL, ev_Rg, ev_Rg3, ev_Ls, ev_lsT, ev_lsL, ev_Isi, ev_Isi2, ev_Rev, ev_revT, ev_Wk, ev_wkN, ev_wkT, ev_tupN, ev_CntT, ev_ctT, ev_IxT, ev_ixT', ev_IxL, ev_ixL', ev_Cnt, ev_ctL, ev_Dic, ev_dg, ev_Sub, ev_Ext, ev_trI, ev_trT, ev_trL, ev_MmD, eq_self, ev_IsE, ev_CallH, ev_unN, ev_unR, ev_TryA, ev_Try, ev_exN, ev_exR, ev_exE, ev_tyN, ev_tyR, ev_tyE, ev_Raise, ev_noxN, ev_noxR, ev_Trg, ev_Cat, t3]) (Rt.set (x := .lst kon) (by simp only [ev_C, ev_Var, ev_Bor, ev_Nl, ev_Bin, ev_Tup, ev_L, ev_Fn, ev_Call, ev_nil, ev_cons, ev_If, ev_And, ev_Or, ev_Not, ev_cAnd, ev_cOr, ev_cNot, ev_cB, ev_cTr, ev_toB, ev_IsN, ev_NotN, ev_isN_non, ev_isN_int, ev_isN_str, ev_isN_tup, ev_isN_bl, ev_MulL, ev_MulR, ev_DivC, ev_ModC, ev_Neg, ev_addI, ev_subI, ev_ltI, ev_leI, ev_gtI, ev_geI, ev_eqI, ev_neI, ev_eqS, ev_neS, ev_eqN, ev_neN, ev_eqNI, ev_neNI, ev_eqIN, ev_neIN, ev_eqB, ev_neB, ev_isB, ev_notB, ev_absI, ev_min2, ev_max2, ev_lenT, ev_lenL, ev_lenS, ev_tupL, ev_tupT, ev_intI, ev_intB, ev_ixT, ev_ixL, ev_ixS, at0, at1, at2, at3, atM1, ev_seq, ev_set, ev_own, ev_ret, ev_drop, ev_sIf, ev_for, ev_frz, ev_asg, ev_par2, ev_par3, ev_mVal, ev_mOwn, ev_app, ev_setv, ev_sets0, ev_sets1, ev_stv, ev_bnm, ev_btp, ev_bl0, ev_bl1, ev_R1, ev_R2, ev_iL, ev_iT, ev_itL, ev_itT, ev_forNil, ev_nolI, ev_nolN, ev_nolS, ev_nolB, ev_nolT, ev_nolL0, ev_nolL1, ev_cTrue, ev_wipe, Rz.bind_ok, Rz.bind_exc, Rz.bind_bad, Rz.ofO_some, Rz.ofO_none, onR_ok, onR_exc, onR_bad, onO_some, onO_none, List.getElem?_cons_zero, List.getElem?_cons_succ, ite_true, ite_false, if_true, if_false, reduceIte, Nat.reduceEqDiff, reduceCtorEq, Option.map_some, Option.bind_some, List.cons_append, List.nil_append, Option.map_none, Bool.false_eq_true, Bool.not_true, Bool.not_false, decide_true, decide_false, decide_eq_true_eq, beq_self_eq_true, ev_iSq, ev_itS1, ev_itS2, ev_itS3, ev_itS4, ev_iEn, ev_enS1, ev_enS2, ev_iZp, ev_zpS1, ev_zpS2, ev_Ch, ev_Sl, ev_O0, ev_O1, ev_iO, ev_slT, ev_slL, ev_Rg, ev_Rg3, ev_Ls, ev_lsT, ev_lsL, ev_Isi, ev_Isi2, ev_Rev, ev_revT, ev_Wk, ev_wkN, ev_wkT, ev_tupN, ev_CntT, ev_ctT, ev_IxT, ev_ixT', ev_IxL, ev_ixL', ev_Cnt, ev_ctL, ev_Dic, ev_dg, ev_Sub, ev_Ext, ev_trI, ev_trT, ev_trL, ev_MmD, eq_self, ev_IsE, ev_CallH, ev_unN, ev_unR, ev_TryA, ev_Try, ev_exN, ev_exR, ev_exE, ev_tyN, ev_tyR, ev_tyE, ev_Raise, ev_noxN, ev_noxR, ev_Trg, ev_Cat]; rfl) (Rt.seq (e1 := _) ?_ h1))), h2⟩
  simp only [ev_C, ev_Var, ev_Bor, ev_Nl, ev_Bin, ev_Tup, ev_L, ev_Fn, ev_Call, ev_nil, ev_cons, ev_If, ev_And, ev_Or, ev_Not, ev_cAnd, ev_cOr, ev_cNot, ev_cB, ev_cTr, ev_toB, ev_IsN, ev_NotN, ev_isN_non, ev_isN_int, ev_isN_str, ev_isN_tup, ev_isN_bl, ev_MulL, ev_MulR, ev_DivC, ev_ModC, ev_Neg, ev_addI, ev_subI, ev_ltI, ev_leI, ev_gtI, ev_geI, ev_eqI, ev_neI, ev_eqS, ev_neS, ev_eqN, ev_neN, ev_eqNI, ev_neNI, ev_eqIN, ev_neIN, ev_eqB, ev_neB, ev_isB, ev_notB, ev_absI, ev_min2, ev_max2, ev_lenT, ev_lenL, ev_lenS, ev_tupL, ev_tupT, ev_intI, ev_intB, ev_ixT, ev_ixL, ev_ixS, at0, at1, at2, at3, atM1, ev_seq, ev_set, ev_own, ev_ret, ev_drop, ev_sIf, ev_for, ev_frz, ev_asg, ev_par2, ev_par3, ev_mVal, ev_mOwn, ev_app, ev_setv, ev_sets0, ev_sets1, ev_stv, ev_bnm, ev_btp, ev_bl0, ev_bl1, ev_R1, ev_R2, ev_iL, ev_iT, ev_itL, ev_itT, ev_forNil, ev_nolI, ev_nolN, ev_nolS, ev_nolB, ev_nolT, ev_nolL0, ev_nolL1, ev_cTrue, ev_wipe, Rz.bind_ok, Rz.bind_exc, Rz.bind_bad, Rz.ofO_some, Rz.ofO_none, onR_ok, onR_exc, onR_bad, onO_some, onO_none, List.getElem?_cons_zero, List.getElem?_cons_succ, ite_true, ite_false, if_true, if_false, reduceIte, Nat.reduceEqDiff, reduceCtorEq, Option.map_some, Option.bind_some, List.cons_append, List.nil_append, Option.map_none, Bool.false_eq_true, Bool.not_true, Bool.not_false, decide_true, decide_false, decide_eq_true_eq, beq_self_eq_true, ev_iSq, ev_itS1, ev_itS2, ev_itS3, ev_itS4, ev_iEn, ev_enS1, ev_enS2, ev_iZp, ev_zpS1, ev_zpS2, ev_Ch, ev_Sl, ev_O0, ev_O1, ev_iO, ev_slT, ev_slL, ev_Rg, ev_Rg3, ev_Ls, ev_lsT, ev_lsL, ev_Isi, ev_Isi2, ev_Rev, ev_revT, ev_Wk, ev_wkN, ev_wkT, ev_tupN, ev_CntT, ev_ctT, ev_IxT, ev_ixT', ev_IxL, ev_ixL', ev_Cnt, ev_ctL, ev_Dic, ev_dg, ev_Sub, ev_Ext, ev_trI, ev_trT, ev_trL, ev_MmD, eq_self, ev_IsE, ev_CallH, ev_unN, ev_unR, ev_TryA, ev_Try, ev_exN, ev_exR, ev_exE, ev_tyN, ev_tyR, ev_tyE, ev_Raise, ev_noxN, ev_noxR, ev_Trg, ev_Cat, t3, u1, ii, R, A]
theorem ne_nil {ds : List D} (h : okdL 63 ds = true) : neD (.tup ds) (.tup []) = some (.bl (!decide (ds = []))) := by
  show (if _ then _ else _) = _
  rw [if_pos ⟨by simp only [okd]; exact h, by simp [okd, okdL]⟩]
  cases ds <;> simp [eqv, eqvL]
theorem od_tup {k : Nat} {ds : List D} (h : ∀ x ∈ ds, od k x = true) (hl : ds.length ≤ 1000) : od (k + 1) (.tup ds) = true := by
  simp only [od, Bool.and_eq_true, List.all_eq_true, decide_eq_true_eq]
  exact ⟨h, hl⟩
theorem odd_ok : ∀ (k f : Nat) (d : D) (c : Int), pd k d = true → k ≤ f → k ≤ 20 → ∃ r, F_law_odd f [d, .int c] = .ok r ∧ od (k + 3) r = true
  | 0, _, _, _, h, _, _ => by simp [pd] at h
  | k + 1, f, d, c, h, hf, hk => by
    obtain ⟨f, rfl⟩ : ∃ g, f = g + 1 := ⟨f - 1, by omega⟩
    cases d with
    | int i =>
      obtain ⟨r, h1, h2⟩ := odd_int f i c
      exact ⟨r, h1, od_le (by omega) h2⟩
    | tup ds =>
      simp only [pd, Bool.and_eq_true, List.all_eq_true, decide_eq_true_eq] at h
      obtain ⟨hd, hl⟩ := h
      have ho : ∀ x ∈ ds, od k x = true := fun x hx => pd_od (hd x hx)
      have ne := ne_nil (okdL_all fun x hx => okd_le (show k ≤ 63 by omega) (od_ok (ho x hx)))
      have m1 := F_law_mix_eq (c := c) (p := 9781) (m := 5) (by decide) (by decide) (by decide)
      by_cases A : ds ≠ [] ∧ 0 < mixM c 9781 5
      · obtain ⟨A1, A2⟩ := A
        rw [decide_eq_false A1] at ne
        have hp : 0 < ds.length := List.length_pos_iff.mpr A1
        have m2 := F_law_mix_eq (c := c) (p := 9769) (m := ds.length) (by decide) (by decide) (by omega)
        have m20 := mixM_lo (c := c) (p := 9769) (m := ds.length) (by omega)
        have m21 := mixM_hi (c := c) (p := 9769) (m := ds.length) (by omega)
        obtain ⟨p, hpm⟩ : ∃ p : Nat, mixM c 9769 ds.length = p := ⟨_, (Int.toNat_of_nonneg m20).symm⟩
        rw [hpm] at m2 m21
        have hpl : p < ds.length := by omega
        have ix : atI ds (p : Int) = some ds[p] := by
          rw [at_nat _ _ (by omega) (by omega)]; rfl
        obtain ⟨r, r1, r2⟩ := odd_ok k f ds[p] (c + 31 * (p : Int) + 7) (hd _ (List.getElem_mem _)) (by omega) (by omega)
        have u1 := cut_hi ds p
        have u2 : cutL ds (some ((p : Int) + 1)) none = ds.drop (p + 1) := cut_lo ds (p + 1)
        have a1 := addT (a := ds.take p) (c := [r]) (by rw [List.length_take]; simp only [List.length_cons, List.length_nil]; omega)
        have a2 := addT (a := ds.take p ++ [r]) (c := ds.drop (p + 1)) (by rw [List.length_append, List.length_take, List.length_drop]; simp only [List.length_cons, List.length_nil]; omega)
        refine ⟨.tup (ds.take p ++ [r] ++ ds.drop (p + 1)), fnD_of (Rt.ift (by simp only [ev_C, ev_Var, ev_Bor, ev_Nl, ev_Bin, ev_Tup, ev_L, ev_Fn, ev_Call, ev_nil, ev_cons, ev_If, ev_And, ev_Or, ev_Not, ev_cAnd, ev_cOr, ev_cNot, ev_cB, ev_cTr, ev_toB, ev_IsN, ev_NotN, ev_isN_non, ev_isN_int, ev_isN_str, ev_isN_tup, ev_isN_bl, ev_MulL, ev_MulR, ev_DivC, ev_ModC, ev_Neg, ev_addI, ev_subI, ev_ltI, ev_leI, ev_gtI, ev_geI, ev_eqI, ev_neI, ev_eqS, ev_neS, ev_eqN, ev_neN, ev_eqNI, ev_neNI, ev_eqIN, ev_neIN, ev_eqB, ev_neB, ev_isB, ev_notB, ev_absI, ev_min2, ev_max2, ev_lenT, ev_lenL, ev_lenS, ev_tupL, ev_tupT, ev_intI, ev_intB, ev_ixT, ev_ixL, ev_ixS, at0, at1, at2, at3, atM1, ev_seq, ev_set, ev_own, ev_ret, ev_drop, ev_sIf, ev_for, ev_frz, ev_asg, ev_par2, ev_par3, ev_mVal, ev_mOwn, ev_app, ev_setv, ev_sets0, ev_sets1, ev_stv, ev_bnm, ev_btp, ev_bl0, ev_bl1, ev_R1, ev_R2, ev_iL, ev_iT, ev_itL, ev_itT, ev_forNil, ev_nolI, ev_nolN, ev_nolS, ev_nolB, ev_nolT, ev_nolL0, ev_nolL1, ev_cTrue, ev_wipe, Rz.bind_ok, Rz.bind_exc, Rz.bind_bad, Rz.ofO_some, Rz.ofO_none, onR_ok, onR_exc, onR_bad, onO_some, onO_none, List.getElem?_cons_zero, List.getElem?_cons_succ, ite_true, ite_false, if_true, if_false, reduceIte, Nat.reduceEqDiff, reduceCtorEq, Option.map_some, Option.bind_some, List.cons_append, List.nil_append, Option.map_none, Bool.false_eq_true, Bool.not_true, Bool.not_false, decide_true, decide_false, decide_eq_true_eq, beq_self_eq_true, ev_iSq, ev_itS1, ev_itS2, ev_itS3, ev_itS4, ev_iEn, ev_enS1, ev_enS2, ev_iZp, ev_zpS1, ev_zpS2, ev_Ch, ev_Sl, ev_O0, ev_O1, ev_iO, ev_slT, ev_slL, ev_Rg, ev_Rg3, ev_Ls, ev_lsT, ev_lsL, ev_Isi, ev_Isi2, ev_Rev, ev_revT, ev_Wk, ev_wkN, ev_wkT, ev_tupN, ev_CntT, ev_ctT, ev_IxT, ev_ixT', ev_IxL, ev_ixL', ev_Cnt, ev_ctL, ev_Dic, ev_dg, ev_Sub, ev_Ext, ev_trI, ev_trT, ev_trL, ev_MmD, eq_self, ev_IsE, ev_CallH, ev_unN, ev_unR, ev_TryA, ev_Try, ev_exN, ev_exR, ev_exE, ev_tyN, ev_tyR, ev_tyE, ev_Raise, ev_noxN, ev_noxR, ev_Trg, ev_Cat, it, ne, m1, A2]) (Rt.set (x := .int p) (by simp only [ev_C, ev_Var, ev_Bor, ev_Nl, ev_Bin, ev_Tup, ev_L, ev_Fn, ev_Call, ev_nil, ev_cons, ev_If, ev_And, ev_Or, ev_Not, ev_cAnd, ev_cOr, ev_cNot, ev_cB, ev_cTr, ev_toB, ev_IsN, ev_NotN, ev_isN_non, ev_isN_int, ev_isN_str, ev_isN_tup, ev_isN_bl, ev_MulL, ev_MulR, ev_DivC, ev_ModC, ev_Neg, ev_addI, ev_subI, ev_ltI, ev_leI, ev_gtI, ev_geI, ev_eqI, ev_neI, ev_eqS, ev_neS, ev_eqN, ev_neN, ev_eqNI, ev_neNI, ev_eqIN, ev_neIN, ev_eqB, ev_neB, ev_isB, ev_notB, ev_absI, ev_min2, ev_max2, ev_lenT, ev_lenL, ev_lenS, ev_tupL, ev_tupT, ev_intI, ev_intB, ev_ixT, ev_ixL, ev_ixS, at0, at1, at2, at3, atM1, ev_seq, ev_set, ev_own, ev_ret, ev_drop, ev_sIf, ev_for, ev_frz, ev_asg, ev_par2, ev_par3, ev_mVal, ev_mOwn, ev_app, ev_setv, ev_sets0, ev_sets1, ev_stv, ev_bnm, ev_btp, ev_bl0, ev_bl1, ev_R1, ev_R2, ev_iL, ev_iT, ev_itL, ev_itT, ev_forNil, ev_nolI, ev_nolN, ev_nolS, ev_nolB, ev_nolT, ev_nolL0, ev_nolL1, ev_cTrue, ev_wipe, Rz.bind_ok, Rz.bind_exc, Rz.bind_bad, Rz.ofO_some, Rz.ofO_none, onR_ok, onR_exc, onR_bad, onO_some, onO_none, List.getElem?_cons_zero, List.getElem?_cons_succ, ite_true, ite_false, if_true, if_false, reduceIte, Nat.reduceEqDiff, reduceCtorEq, Option.map_some, Option.bind_some, List.cons_append, List.nil_append, Option.map_none, Bool.false_eq_true, Bool.not_true, Bool.not_false, decide_true, decide_false, decide_eq_true_eq, beq_self_eq_true, ev_iSq, ev_itS1, ev_itS2, ev_itS3, ev_itS4, ev_iEn, ev_enS1, ev_enS2, ev_iZp, ev_zpS1, ev_zpS2, ev_Ch, ev_Sl, ev_O0, ev_O1, ev_iO, ev_slT, ev_slL, ev_Rg, ev_Rg3, ev_Ls, ev_lsT, ev_lsL, ev_Isi, ev_Isi2, ev_Rev, ev_revT, ev_Wk, ev_wkN, ev_wkT, ev_tupN, ev_CntT, ev_ctT, ev_IxT, ev_ixT', ev_IxL, ev_ixL', ev_Cnt, ev_ctL, ev_Dic, ev_dg, ev_Sub, ev_Ext, ev_trI, ev_trT, ev_trL, ev_MmD, eq_self, ev_IsE, ev_CallH, ev_unN, ev_unR, ev_TryA, ev_Try, ev_exN, ev_exR, ev_exE, ev_tyN, ev_tyR, ev_tyE, ev_Raise, ev_noxN, ev_noxR, ev_Trg, ev_Cat, m2]) (Rt.ret ?_))), ?_⟩
        · simp only [ev_C, ev_Var, ev_Bor, ev_Nl, ev_Bin, ev_Tup, ev_L, ev_Fn, ev_Call, ev_nil, ev_cons, ev_If, ev_And, ev_Or, ev_Not, ev_cAnd, ev_cOr, ev_cNot, ev_cB, ev_cTr, ev_toB, ev_IsN, ev_NotN, ev_isN_non, ev_isN_int, ev_isN_str, ev_isN_tup, ev_isN_bl, ev_MulL, ev_MulR, ev_DivC, ev_ModC, ev_Neg, ev_addI, ev_subI, ev_ltI, ev_leI, ev_gtI, ev_geI, ev_eqI, ev_neI, ev_eqS, ev_neS, ev_eqN, ev_neN, ev_eqNI, ev_neNI, ev_eqIN, ev_neIN, ev_eqB, ev_neB, ev_isB, ev_notB, ev_absI, ev_min2, ev_max2, ev_lenT, ev_lenL, ev_lenS, ev_tupL, ev_tupT, ev_intI, ev_intB, ev_ixT, ev_ixL, ev_ixS, at0, at1, at2, at3, atM1, ev_seq, ev_set, ev_own, ev_ret, ev_drop, ev_sIf, ev_for, ev_frz, ev_asg, ev_par2, ev_par3, ev_mVal, ev_mOwn, ev_app, ev_setv, ev_sets0, ev_sets1, ev_stv, ev_bnm, ev_btp, ev_bl0, ev_bl1, ev_R1, ev_R2, ev_iL, ev_iT, ev_itL, ev_itT, ev_forNil, ev_nolI, ev_nolN, ev_nolS, ev_nolB, ev_nolT, ev_nolL0, ev_nolL1, ev_cTrue, ev_wipe, Rz.bind_ok, Rz.bind_exc, Rz.bind_bad, Rz.ofO_some, Rz.ofO_none, onR_ok, onR_exc, onR_bad, onO_some, onO_none, List.getElem?_cons_zero, List.getElem?_cons_succ, ite_true, ite_false, if_true, if_false, reduceIte, Nat.reduceEqDiff, reduceCtorEq, Option.map_some, Option.bind_some, List.cons_append, List.nil_append, Option.map_none, Bool.false_eq_true, Bool.not_true, Bool.not_false, decide_true, decide_false, decide_eq_true_eq, beq_self_eq_true, ev_iSq, ev_itS1, ev_itS2, ev_itS3, ev_itS4, ev_iEn, ev_enS1, ev_enS2, ev_iZp, ev_zpS1, ev_zpS2, ev_Ch, ev_Sl, ev_O0, ev_O1, ev_iO, ev_slT, ev_slL, ev_Rg, ev_Rg3, ev_Ls, ev_lsT, ev_lsL, ev_Isi, ev_Isi2, ev_Rev, ev_revT, ev_Wk, ev_wkN, ev_wkT, ev_tupN, ev_CntT, ev_ctT, ev_IxT, ev_ixT', ev_IxL, ev_ixL', ev_Cnt, ev_ctL, ev_Dic, ev_dg, ev_Sub, ev_Ext, ev_trI, ev_trT, ev_trL, ev_MmD, eq_self, ev_IsE, ev_CallH, ev_unN, ev_unR, ev_TryA, ev_Try, ev_exN, ev_exR, ev_exE, ev_tyN, ev_tyR, ev_tyE, ev_Raise, ev_noxN, ev_noxR, ev_Trg, ev_Cat, u1, u2, ix, r1, a1, a2]
        · refine od_tup (k := k + 3) (fun x hx => ?_) (by rw [List.length_append, List.length_append, List.length_take, List.length_drop]; simp only [List.length_cons, List.length_nil]; omega)
          simp only [List.mem_append, List.mem_singleton] at hx
          rcases hx with (hx | rfl) | hx
          · exact od_le (by omega) (ho x (List.mem_of_mem_take hx))
          · exact r2
          · exact od_le (by omega) (ho x (List.mem_of_mem_drop hx))
      · have c1 := len_cut ds (some (-1)) none
        have c2 := len_cut ds none (some (-1))
        have c3 := len_cut ds (some 1) none
        have aT := addT (a := ds) (c := cutL ds (some (-1)) none) (by omega)
        obtain ⟨M, hM⟩ : ∃ M, M = [D.lst ds, .tup (ds ++ cutL ds (some (-1)) none), .tup (cutL ds none (some (-1))), .tup ds.reverse, .tup (cutL ds (some 1) none), .tup [.tup ds]] := ⟨_, rfl⟩
        have Mo : ∀ x ∈ M, od (k + 3) x = true := by
          intro x hx
          rw [hM] at hx
          simp only [List.mem_cons, List.not_mem_nil, or_false] at hx
          have ct : ∀ lo hi, od (k + 3) (.tup (cutL ds lo hi)) = true := fun lo hi => od_le (by omega) (od_tup (fun y hy => ho y (mem_cut hy)) (by have := len_cut ds lo hi; omega))
          rcases hx with rfl | rfl | rfl | rfl | rfl | rfl
          · refine od_le (k := k + 1) (by omega) ?_
            simp only [od, Bool.and_eq_true, List.all_eq_true, decide_eq_true_eq]
            exact ⟨ho, by omega⟩
          · refine od_le (k := k + 1) (by omega) (od_tup (fun y hy => ?_) (by rw [List.length_append]; omega))
            rcases List.mem_append.mp hy with hy | hy
            · exact ho y hy
            · exact ho y (mem_cut hy)
          · exact ct _ _
          · exact od_le (k := k + 1) (by omega) (od_tup (fun y hy => ho y (List.mem_reverse.mp hy)) (by rw [List.length_reverse]; omega))
          · exact ct _ _
          · refine od_le (k := k + 1 + 1) (by omega) (od_tup (fun y hy => ?_) (by simp))
            rw [List.mem_singleton.mp hy]
            exact od_tup ho (by omega)
        have Ml : M.length = 6 := by rw [hM]; rfl
        have R := ev_repL (ds := M) (k := 2) (by omega) (by decide) (by decide)
        have Aa := addL (a := kon) (c := rpt 2 M) (by rw [rpt_len, Ml]; simp [kon])
        obtain ⟨r, h1, h2⟩ := odd_pick (k := k + 4) (L := kon ++ rpt 2 M) (fun d hd => by
          rcases List.mem_append.mp hd with hd | hd
          · exact od_le (by omega) (kon_od d hd)
          · exact od_up (Mo d (mem_rpt hd))) (by simp [kon]) c (e := (((En.st [.tup ds, .int c]).set 3 (.val (.lst kon))).set 3 (.val (.lst (kon ++ rpt 2 M))))) (by simp only [ev_C, ev_Var, ev_Bor, ev_Nl, ev_Bin, ev_Tup, ev_L, ev_Fn, ev_Call, ev_nil, ev_cons, ev_If, ev_And, ev_Or, ev_Not, ev_cAnd, ev_cOr, ev_cNot, ev_cB, ev_cTr, ev_toB, ev_IsN, ev_NotN, ev_isN_non, ev_isN_int, ev_isN_str, ev_isN_tup, ev_isN_bl, ev_MulL, ev_MulR, ev_DivC, ev_ModC, ev_Neg, ev_addI, ev_subI, ev_ltI, ev_leI, ev_gtI, ev_geI, ev_eqI, ev_neI, ev_eqS, ev_neS, ev_eqN, ev_neN, ev_eqNI, ev_neNI, ev_eqIN, ev_neIN, ev_eqB, ev_neB, ev_isB, ev_notB, ev_absI, ev_min2, ev_max2, ev_lenT, ev_lenL, ev_lenS, ev_tupL, ev_tupT, ev_intI, ev_intB, ev_ixT, ev_ixL, ev_ixS, at0, at1, at2, at3, atM1, ev_seq, ev_set, ev_own, ev_ret, ev_drop, ev_sIf, ev_for, ev_frz, ev_asg, ev_par2, ev_par3, ev_mVal, ev_mOwn, ev_app, ev_setv, ev_sets0, ev_sets1, ev_stv, ev_bnm, ev_btp, ev_bl0, ev_bl1, ev_R1, ev_R2, ev_iL, ev_iT, ev_itL, ev_itT, ev_forNil, ev_nolI, ev_nolN, ev_nolS, ev_nolB, ev_nolT, ev_nolL0, ev_nolL1, ev_cTrue, ev_wipe, Rz.bind_ok, Rz.bind_exc, Rz.bind_bad, Rz.ofO_some, Rz.ofO_none, onR_ok, onR_exc, onR_bad, onO_some, onO_none, List.getElem?_cons_zero, List.getElem?_cons_succ, ite_true, ite_false, if_true, if_false, reduceIte, Nat.reduceEqDiff, reduceCtorEq, Option.map_some, Option.bind_some, List.cons_append, List.nil_append, Option.map_none, Bool.false_eq_true, Bool.not_true, Bool.not_false, decide_true, decide_false, decide_eq_true_eq, beq_self_eq_true, ev_iSq, ev_itS1, ev_itS2, ev_itS3, ev_itS4, ev_iEn, ev_enS1, ev_enS2, ev_iZp, ev_zpS1, ev_zpS2, ev_Ch, ev_Sl, ev_O0, ev_O1, ev_iO, ev_slT, ev_slL, ev_Rg, ev_Rg3, ev_Ls, ev_lsT, ev_lsL, ev_Isi, ev_Isi2, ev_Rev, ev_revT, ev_Wk, ev_wkN, ev_wkT, ev_tupN, ev_CntT, ev_ctT, ev_IxT, ev_ixT', ev_IxL, ev_ixL', ev_Cnt, ev_ctL, ev_Dic, ev_dg, ev_Sub, ev_Ext, ev_trI, ev_trT, ev_trL, ev_MmD, eq_self, ev_IsE, ev_CallH, ev_unN, ev_unR, ev_TryA, ev_Try, ev_exN, ev_exR, ev_exE, ev_tyN, ev_tyR, ev_tyE, ev_Raise, ev_noxN, ev_noxR, ev_Trg, ev_Cat]) (by simp only [ev_C, ev_Var, ev_Bor, ev_Nl, ev_Bin, ev_Tup, ev_L, ev_Fn, ev_Call, ev_nil, ev_cons, ev_If, ev_And, ev_Or, ev_Not, ev_cAnd, ev_cOr, ev_cNot, ev_cB, ev_cTr, ev_toB, ev_IsN, ev_NotN, ev_isN_non, ev_isN_int, ev_isN_str, ev_isN_tup, ev_isN_bl, ev_MulL, ev_MulR, ev_DivC, ev_ModC, ev_Neg, ev_addI, ev_subI, ev_ltI, ev_leI, ev_gtI, ev_geI, ev_eqI, ev_neI, ev_eqS, ev_neS, ev_eqN, ev_neN, ev_eqNI, ev_neNI, ev_eqIN, ev_neIN, ev_eqB, ev_neB, ev_isB, ev_notB, ev_absI, ev_min2, ev_max2, ev_lenT, ev_lenL, ev_lenS, ev_tupL, ev_tupT, ev_intI, ev_intB, ev_ixT, ev_ixL, ev_ixS, at0, at1, at2, at3, atM1, ev_seq, ev_set, ev_own, ev_ret, ev_drop, ev_sIf, ev_for, ev_frz, ev_asg, ev_par2, ev_par3, ev_mVal, ev_mOwn, ev_app, ev_setv, ev_sets0, ev_sets1, ev_stv, ev_bnm, ev_btp, ev_bl0, ev_bl1, ev_R1, ev_R2, ev_iL, ev_iT, ev_itL, ev_itT, ev_forNil, ev_nolI, ev_nolN, ev_nolS, ev_nolB, ev_nolT, ev_nolL0, ev_nolL1, ev_cTrue, ev_wipe, Rz.bind_ok, Rz.bind_exc, Rz.bind_bad, Rz.ofO_some, Rz.ofO_none, onR_ok, onR_exc, onR_bad, onO_some, onO_none, List.getElem?_cons_zero, List.getElem?_cons_succ, ite_true, ite_false, if_true, if_false, reduceIte, Nat.reduceEqDiff, reduceCtorEq, Option.map_some, Option.bind_some, List.cons_append, List.nil_append, Option.map_none, Bool.false_eq_true, Bool.not_true, Bool.not_false, decide_true, decide_false, decide_eq_true_eq, beq_self_eq_true, ev_iSq, ev_itS1, ev_itS2, ev_itS3, ev_itS4, ev_iEn, ev_enS1, ev_enS2, ev_iZp, ev_zpS1, ev_zpS2, ev_Ch, ev_Sl, ev_O0, ev_O1, ev_iO, ev_slT, ev_slL, ev_Rg, ev_Rg3, ev_Ls, ev_lsT, ev_lsL, ev_Isi, ev_Isi2, ev_Rev, ev_revT, ev_Wk, ev_wkN, ev_wkT, ev_tupN, ev_CntT, ev_ctT, ev_IxT, ev_ixT', ev_IxL, ev_ixL', ev_Cnt, ev_ctL, ev_Dic, ev_dg, ev_Sub, ev_Ext, ev_trI, ev_trT, ev_trL, ev_MmD, eq_self, ev_IsE, ev_CallH, ev_unN, ev_unR, ev_TryA, ev_Try, ev_exN, ev_exR, ev_exE, ev_tyN, ev_tyR, ev_tyE, ev_Raise, ev_noxN, ev_noxR, ev_Trg, ev_Cat])
        refine ⟨r, fnD_of (Rt.iff ?_ (Rt.set (x := .lst kon) (by simp only [ev_C, ev_Var, ev_Bor, ev_Nl, ev_Bin, ev_Tup, ev_L, ev_Fn, ev_Call, ev_nil, ev_cons, ev_If, ev_And, ev_Or, ev_Not, ev_cAnd, ev_cOr, ev_cNot, ev_cB, ev_cTr, ev_toB, ev_IsN, ev_NotN, ev_isN_non, ev_isN_int, ev_isN_str, ev_isN_tup, ev_isN_bl, ev_MulL, ev_MulR, ev_DivC, ev_ModC, ev_Neg, ev_addI, ev_subI, ev_ltI, ev_leI, ev_gtI, ev_geI, ev_eqI, ev_neI, ev_eqS, ev_neS, ev_eqN, ev_neN, ev_eqNI, ev_neNI, ev_eqIN, ev_neIN, ev_eqB, ev_neB, ev_isB, ev_notB, ev_absI, ev_min2, ev_max2, ev_lenT, ev_lenL, ev_lenS, ev_tupL, ev_tupT, ev_intI, ev_intB, ev_ixT, ev_ixL, ev_ixS, at0, at1, at2, at3, atM1, ev_seq, ev_set, ev_own, ev_ret, ev_drop, ev_sIf, ev_for, ev_frz, ev_asg, ev_par2, ev_par3, ev_mVal, ev_mOwn, ev_app, ev_setv, ev_sets0, ev_sets1, ev_stv, ev_bnm, ev_btp, ev_bl0, ev_bl1, ev_R1, ev_R2, ev_iL, ev_iT, ev_itL, ev_itT, ev_forNil, ev_nolI, ev_nolN, ev_nolS, ev_nolB, ev_nolT, ev_nolL0, ev_nolL1, ev_cTrue, ev_wipe, Rz.bind_ok, Rz.bind_exc, Rz.bind_bad, Rz.ofO_some, Rz.ofO_none, onR_ok, onR_exc, onR_bad, onO_some, onO_none, List.getElem?_cons_zero, List.getElem?_cons_succ, ite_true, ite_false, if_true, if_false, reduceIte, Nat.reduceEqDiff, reduceCtorEq, Option.map_some, Option.bind_some, List.cons_append, List.nil_append, Option.map_none, Bool.false_eq_true, Bool.not_true, Bool.not_false, decide_true, decide_false, decide_eq_true_eq, beq_self_eq_true, ev_iSq, ev_itS1, ev_itS2, ev_itS3, ev_itS4, ev_iEn, ev_enS1, ev_enS2, ev_iZp, ev_zpS1, ev_zpS2, ev_Ch, ev_Sl, ev_O0, ev_O1, ev_iO, ev_slT, ev_slL, ev_Rg, ev_Rg3, ev_Ls, ev_lsT, ev_lsL, ev_Isi, ev_Isi2, ev_Rev, ev_revT, ev_Wk, ev_wkN, ev_wkT, ev_tupN, ev_CntT, ev_ctT, ev_IxT, ev_ixT', ev_IxL, ev_ixL', ev_Cnt, ev_ctL, ev_Dic, ev_dg, ev_Sub, ev_Ext, ev_trI, ev_trT, ev_trL, ev_MmD, eq_self, ev_IsE, ev_CallH, ev_unN, ev_unR, ev_TryA, ev_Try, ev_exN, ev_exR, ev_exE, ev_tyN, ev_tyR, ev_tyE, ev_Raise, ev_noxN, ev_noxR, ev_Trg, ev_Cat]; rfl) (Rt.seq (e1 := _) ?_ h1))), h2⟩
        · by_cases q : ds = []
          · rw [decide_eq_true q] at ne
            simp only [ev_C, ev_Var, ev_Bor, ev_Nl, ev_Bin, ev_Tup, ev_L, ev_Fn, ev_Call, ev_nil, ev_cons, ev_If, ev_And, ev_Or, ev_Not, ev_cAnd, ev_cOr, ev_cNot, ev_cB, ev_cTr, ev_toB, ev_IsN, ev_NotN, ev_isN_non, ev_isN_int, ev_isN_str, ev_isN_tup, ev_isN_bl, ev_MulL, ev_MulR, ev_DivC, ev_ModC, ev_Neg, ev_addI, ev_subI, ev_ltI, ev_leI, ev_gtI, ev_geI, ev_eqI, ev_neI, ev_eqS, ev_neS, ev_eqN, ev_neN, ev_eqNI, ev_neNI, ev_eqIN, ev_neIN, ev_eqB, ev_neB, ev_isB, ev_notB, ev_absI, ev_min2, ev_max2, ev_lenT, ev_lenL, ev_lenS, ev_tupL, ev_tupT, ev_intI, ev_intB, ev_ixT, ev_ixL, ev_ixS, at0, at1, at2, at3, atM1, ev_seq, ev_set, ev_own, ev_ret, ev_drop, ev_sIf, ev_for, ev_frz, ev_asg, ev_par2, ev_par3, ev_mVal, ev_mOwn, ev_app, ev_setv, ev_sets0, ev_sets1, ev_stv, ev_bnm, ev_btp, ev_bl0, ev_bl1, ev_R1, ev_R2, ev_iL, ev_iT, ev_itL, ev_itT, ev_forNil, ev_nolI, ev_nolN, ev_nolS, ev_nolB, ev_nolT, ev_nolL0, ev_nolL1, ev_cTrue, ev_wipe, Rz.bind_ok, Rz.bind_exc, Rz.bind_bad, Rz.ofO_some, Rz.ofO_none, onR_ok, onR_exc, onR_bad, onO_some, onO_none, List.getElem?_cons_zero, List.getElem?_cons_succ, ite_true, ite_false, if_true, if_false, reduceIte, Nat.reduceEqDiff, reduceCtorEq, Option.map_some, Option.bind_some, List.cons_append, List.nil_append, Option.map_none, Bool.false_eq_true, Bool.not_true, Bool.not_false, decide_true, decide_false, decide_eq_true_eq, beq_self_eq_true, ev_iSq, ev_itS1, ev_itS2, ev_itS3, ev_itS4, ev_iEn, ev_enS1, ev_enS2, ev_iZp, ev_zpS1, ev_zpS2, ev_Ch, ev_Sl, ev_O0, ev_O1, ev_iO, ev_slT, ev_slL, ev_Rg, ev_Rg3, ev_Ls, ev_lsT, ev_lsL, ev_Isi, ev_Isi2, ev_Rev, ev_revT, ev_Wk, ev_wkN, ev_wkT, ev_tupN, ev_CntT, ev_ctT, ev_IxT, ev_ixT', ev_IxL, ev_ixL', ev_Cnt, ev_ctL, ev_Dic, ev_dg, ev_Sub, ev_Ext, ev_trI, ev_trT, ev_trL, ev_MmD, eq_self, ev_IsE, ev_CallH, ev_unN, ev_unR, ev_TryA, ev_Try, ev_exN, ev_exR, ev_exE, ev_tyN, ev_tyR, ev_tyE, ev_Raise, ev_noxN, ev_noxR, ev_Trg, ev_Cat, it, ne]
          · rw [decide_eq_false q] at ne
            have q2 : ¬ 0 < mixM c 9781 5 := fun z => A ⟨q, z⟩
            simp only [ev_C, ev_Var, ev_Bor, ev_Nl, ev_Bin, ev_Tup, ev_L, ev_Fn, ev_Call, ev_nil, ev_cons, ev_If, ev_And, ev_Or, ev_Not, ev_cAnd, ev_cOr, ev_cNot, ev_cB, ev_cTr, ev_toB, ev_IsN, ev_NotN, ev_isN_non, ev_isN_int, ev_isN_str, ev_isN_tup, ev_isN_bl, ev_MulL, ev_MulR, ev_DivC, ev_ModC, ev_Neg, ev_addI, ev_subI, ev_ltI, ev_leI, ev_gtI, ev_geI, ev_eqI, ev_neI, ev_eqS, ev_neS, ev_eqN, ev_neN, ev_eqNI, ev_neNI, ev_eqIN, ev_neIN, ev_eqB, ev_neB, ev_isB, ev_notB, ev_absI, ev_min2, ev_max2, ev_lenT, ev_lenL, ev_lenS, ev_tupL, ev_tupT, ev_intI, ev_intB, ev_ixT, ev_ixL, ev_ixS, at0, at1, at2, at3, atM1, ev_seq, ev_set, ev_own, ev_ret, ev_drop, ev_sIf, ev_for, ev_frz, ev_asg, ev_par2, ev_par3, ev_mVal, ev_mOwn, ev_app, ev_setv, ev_sets0, ev_sets1, ev_stv, ev_bnm, ev_btp, ev_bl0, ev_bl1, ev_R1, ev_R2, ev_iL, ev_iT, ev_itL, ev_itT, ev_forNil, ev_nolI, ev_nolN, ev_nolS, ev_nolB, ev_nolT, ev_nolL0, ev_nolL1, ev_cTrue, ev_wipe, Rz.bind_ok, Rz.bind_exc, Rz.bind_bad, Rz.ofO_some, Rz.ofO_none, onR_ok, onR_exc, onR_bad, onO_some, onO_none, List.getElem?_cons_zero, List.getElem?_cons_succ, ite_true, ite_false, if_true, if_false, reduceIte, Nat.reduceEqDiff, reduceCtorEq, Option.map_some, Option.bind_some, List.cons_append, List.nil_append, Option.map_none, Bool.false_eq_true, Bool.not_true, Bool.not_false, decide_true, decide_false, decide_eq_true_eq, beq_self_eq_true, ev_iSq, ev_itS1, ev_itS2, ev_itS3, ev_itS4, ev_iEn, ev_enS1, ev_enS2, ev_iZp, ev_zpS1, ev_zpS2, ev_Ch, ev_Sl, ev_O0, ev_O1, ev_iO, ev_slT, ev_slL, ev_Rg, ev_Rg3, ev_Ls, ev_lsT, ev_lsL, ev_Isi, ev_Isi2, ev_Rev, ev_revT, ev_Wk, ev_wkN, ev_wkT, ev_tupN, ev_CntT, ev_ctT, ev_IxT, ev_ixT', ev_IxL, ev_ixL', ev_Cnt, ev_ctL, ev_Dic, ev_dg, ev_Sub, ev_Ext, ev_trI, ev_trT, ev_trL, ev_MmD, eq_self, ev_IsE, ev_CallH, ev_unN, ev_unR, ev_TryA, ev_Try, ev_exN, ev_exR, ev_exE, ev_tyN, ev_tyR, ev_tyE, ev_Raise, ev_noxN, ev_noxR, ev_Trg, ev_Cat, it, ne, m1, q2]
        · rw [hM] at R
          rw [hM] at Aa ⊢
          simp only [ev_C, ev_Var, ev_Bor, ev_Nl, ev_Bin, ev_Tup, ev_L, ev_Fn, ev_Call, ev_nil, ev_cons, ev_If, ev_And, ev_Or, ev_Not, ev_cAnd, ev_cOr, ev_cNot, ev_cB, ev_cTr, ev_toB, ev_IsN, ev_NotN, ev_isN_non, ev_isN_int, ev_isN_str, ev_isN_tup, ev_isN_bl, ev_MulL, ev_MulR, ev_DivC, ev_ModC, ev_Neg, ev_addI, ev_subI, ev_ltI, ev_leI, ev_gtI, ev_geI, ev_eqI, ev_neI, ev_eqS, ev_neS, ev_eqN, ev_neN, ev_eqNI, ev_neNI, ev_eqIN, ev_neIN, ev_eqB, ev_neB, ev_isB, ev_notB, ev_absI, ev_min2, ev_max2, ev_lenT, ev_lenL, ev_lenS, ev_tupL, ev_tupT, ev_intI, ev_intB, ev_ixT, ev_ixL, ev_ixS, at0, at1, at2, at3, atM1, ev_seq, ev_set, ev_own, ev_ret, ev_drop, ev_sIf, ev_for, ev_frz, ev_asg, ev_par2, ev_par3, ev_mVal, ev_mOwn, ev_app, ev_setv, ev_sets0, ev_sets1, ev_stv, ev_bnm, ev_btp, ev_bl0, ev_bl1, ev_R1, ev_R2, ev_iL, ev_iT, ev_itL, ev_itT, ev_forNil, ev_nolI, ev_nolN, ev_nolS, ev_nolB, ev_nolT, ev_nolL0, ev_nolL1, ev_cTrue, ev_wipe, Rz.bind_ok, Rz.bind_exc, Rz.bind_bad, Rz.ofO_some, Rz.ofO_none, onR_ok, onR_exc, onR_bad, onO_some, onO_none, List.getElem?_cons_zero, List.getElem?_cons_succ, ite_true, ite_false, if_true, if_false, reduceIte, Nat.reduceEqDiff, reduceCtorEq, Option.map_some, Option.bind_some, List.cons_append, List.nil_append, Option.map_none, Bool.false_eq_true, Bool.not_true, Bool.not_false, decide_true, decide_false, decide_eq_true_eq, beq_self_eq_true, ev_iSq, ev_itS1, ev_itS2, ev_itS3, ev_itS4, ev_iEn, ev_enS1, ev_enS2, ev_iZp, ev_zpS1, ev_zpS2, ev_Ch, ev_Sl, ev_O0, ev_O1, ev_iO, ev_slT, ev_slL, ev_Rg, ev_Rg3, ev_Ls, ev_lsT, ev_lsL, ev_Isi, ev_Isi2, ev_Rev, ev_revT, ev_Wk, ev_wkN, ev_wkT, ev_tupN, ev_CntT, ev_ctT, ev_IxT, ev_ixT', ev_IxL, ev_ixL', ev_Cnt, ev_ctL, ev_Dic, ev_dg, ev_Sub, ev_Ext, ev_trI, ev_trT, ev_trL, ev_MmD, eq_self, ev_IsE, ev_CallH, ev_unN, ev_unR, ev_TryA, ev_Try, ev_exN, ev_exR, ev_exE, ev_tyN, ev_tyR, ev_tyE, ev_Raise, ev_noxN, ev_noxR, ev_Trg, ev_Cat, it, aT, R, Aa]
    | _ => simp [pd] at h
/-! ### the law -/
def All6 (l : List D) : Prop := ∀ d ∈ l, od 6 d = true
theorem All6.app {a c : List D} (h : All6 a) (k : All6 c) : All6 (a ++ c) := fun d hd => by
  rcases List.mem_append.mp hd with hd | hd
  · exact h d hd
  · exact k d hd
theorem All6.cons {d : D} {c : List D} (h : od 6 d = true) (k : All6 c) : All6 (d :: c) := fun x hx => by
  rcases List.mem_cons.mp hx with rfl | hx
  · exact h
  · exact k x hx
theorem All6.nil : All6 [] := fun d hd => by cases hd
theorem bs_od (b : Book) (hl : b.pw.length ≤ 6) : pd 3 b.d = true := by
  unfold Book.d
  simp only [pd, List.all_cons, List.all_nil, List.all_map, Bool.and_true, List.length_map]
  have : b.pw.all (pd 1 ∘ D.int) = true := List.all_eq_true.mpr fun x _ => rfl
  rw [this]
  simp
  omega
theorem od_ints (l : List Int) (hl : l.length ≤ 1000) : od 2 (.tup (l.map D.int)) = true := od_tup (k := 1) (fun x hx => by
  obtain ⟨i, _, rfl⟩ := List.mem_map.mp hx
  rfl) (by rw [List.length_map]; exact hl)
theorem od_4 {a b c : Int} {d : D} (h : od 2 d = true) : od 6 (.tup [.int a, .int b, d, .int c]) = true := od_le (k := 3) (by decide) (od_tup (k := 2) (fun x hx => by
  simp only [List.mem_cons, List.not_mem_nil, or_false] at hx
  rcases hx with rfl | rfl | rfl | rfl
  · rfl
  · rfl
  · exact h
  · rfl) (by simp))
theorem od_3 (a b c : Int) : od 6 (.tup [.int a, .int b, .int c]) = true := rfl
structure P01 (ns : List Int) (b : Book) (k : Int) (s : D) (n : Nat) (e : En) : Prop where
  h0 : e.v 0 = .val (.scr ns)
  h1 : e.v 1 = .val (.int k)
  h3 : e.v 3 = .val b.d
  h9 : e.v 9 = .val s
  B : ∃ l, e.v 8 = .own l ∧ All6 l ∧ l.length ≤ 100 + n
  S : ∃ l, e.v 10 = .own l ∧ All6 l ∧ l.length ≤ 100 + n
theorem add01 {ns : List Int} {b : Book} (hb : b.Ok) {k : Int} {s : D} (hs : pd 2 s = true) {n : Nat} (hn : n ≤ 100) (j : Int) {e : En} (h : P01 ns b k s n e) : Nx (g_law_b0 (e.set 11 (.val (.int j)))) (P01 ns b k s (n + 1)) := by
  obtain ⟨h0, h1, h3, h9, ⟨B, b1, b2, b3⟩, ⟨S, s1, s2, s3⟩⟩ := h
  obtain ⟨c, hc⟩ := cell_ok ns (k := 9) (by omega)
  obtain ⟨r, r1, r2⟩ := odd_ok 3 4 b.d (c + 17 * j + 5 * k) (bs_od b hb.n2) (by decide) (by decide)
  obtain ⟨q, q1, q2⟩ := odd_ok 2 4 s (c + 17 * j + 5 * k) hs (by decide) (by decide)
  have l1 : B.length < sizeLine := by rw [sizeLine_eq]; omega
  have l2 : S.length < sizeLine := by rw [sizeLine_eq]; omega
  unfold g_law_b0
  refine ⟨_, .inl (by simp only [ev_C, ev_Var, ev_Bor, ev_Nl, ev_Bin, ev_Tup, ev_L, ev_Fn, ev_Call, ev_nil, ev_cons, ev_If, ev_And, ev_Or, ev_Not, ev_cAnd, ev_cOr, ev_cNot, ev_cB, ev_cTr, ev_toB, ev_IsN, ev_NotN, ev_isN_non, ev_isN_int, ev_isN_str, ev_isN_tup, ev_isN_bl, ev_MulL, ev_MulR, ev_DivC, ev_ModC, ev_Neg, ev_addI, ev_subI, ev_ltI, ev_leI, ev_gtI, ev_geI, ev_eqI, ev_neI, ev_eqS, ev_neS, ev_eqN, ev_neN, ev_eqNI, ev_neNI, ev_eqIN, ev_neIN, ev_eqB, ev_neB, ev_isB, ev_notB, ev_absI, ev_min2, ev_max2, ev_lenT, ev_lenL, ev_lenS, ev_tupL, ev_tupT, ev_intI, ev_intB, ev_ixT, ev_ixL, ev_ixS, at0, at1, at2, at3, atM1, ev_seq, ev_set, ev_own, ev_ret, ev_drop, ev_sIf, ev_for, ev_frz, ev_asg, ev_par2, ev_par3, ev_mVal, ev_mOwn, ev_app, ev_setv, ev_sets0, ev_sets1, ev_stv, ev_bnm, ev_btp, ev_bl0, ev_bl1, ev_R1, ev_R2, ev_iL, ev_iT, ev_itL, ev_itT, ev_forNil, ev_nolI, ev_nolN, ev_nolS, ev_nolB, ev_nolT, ev_nolL0, ev_nolL1, ev_cTrue, ev_wipe, Rz.bind_ok, Rz.bind_exc, Rz.bind_bad, Rz.ofO_some, Rz.ofO_none, onR_ok, onR_exc, onR_bad, onO_some, onO_none, List.getElem?_cons_zero, List.getElem?_cons_succ, ite_true, ite_false, if_true, if_false, reduceIte, Nat.reduceEqDiff, reduceCtorEq, Option.map_some, Option.bind_some, List.cons_append, List.nil_append, Option.map_none, Bool.false_eq_true, Bool.not_true, Bool.not_false, decide_true, decide_false, decide_eq_true_eq, beq_self_eq_true, ev_iSq, ev_itS1, ev_itS2, ev_itS3, ev_itS4, ev_iEn, ev_enS1, ev_enS2, ev_iZp, ev_zpS1, ev_zpS2, ev_Ch, ev_Sl, ev_O0, ev_O1, ev_iO, ev_slT, ev_slL, ev_Rg, ev_Rg3, ev_Ls, ev_lsT, ev_lsL, ev_Isi, ev_Isi2, ev_Rev, ev_revT, ev_Wk, ev_wkN, ev_wkT, ev_tupN, ev_CntT, ev_ctT, ev_IxT, ev_ixT', ev_IxL, ev_ixL', ev_Cnt, ev_ctL, ev_Dic, ev_dg, ev_Sub, ev_Ext, ev_trI, ev_trT, ev_trL, ev_MmD, eq_self, ev_IsE, ev_CallH, ev_unN, ev_unR, ev_TryA, ev_Try, ev_exN, ev_exR, ev_exE, ev_tyN, ev_tyR, ev_tyE, ev_Raise, ev_noxN, ev_noxR, ev_Trg, ev_Cat, h0, h1, h3, h9, hc, b1, s1, r1, q1, l1, l2]; rfl), ⟨by simp only [ev_C, ev_Var, ev_Bor, ev_Nl, ev_Bin, ev_Tup, ev_L, ev_Fn, ev_Call, ev_nil, ev_cons, ev_If, ev_And, ev_Or, ev_Not, ev_cAnd, ev_cOr, ev_cNot, ev_cB, ev_cTr, ev_toB, ev_IsN, ev_NotN, ev_isN_non, ev_isN_int, ev_isN_str, ev_isN_tup, ev_isN_bl, ev_MulL, ev_MulR, ev_DivC, ev_ModC, ev_Neg, ev_addI, ev_subI, ev_ltI, ev_leI, ev_gtI, ev_geI, ev_eqI, ev_neI, ev_eqS, ev_neS, ev_eqN, ev_neN, ev_eqNI, ev_neNI, ev_eqIN, ev_neIN, ev_eqB, ev_neB, ev_isB, ev_notB, ev_absI, ev_min2, ev_max2, ev_lenT, ev_lenL, ev_lenS, ev_tupL, ev_tupT, ev_intI, ev_intB, ev_ixT, ev_ixL, ev_ixS, at0, at1, at2, at3, atM1, ev_seq, ev_set, ev_own, ev_ret, ev_drop, ev_sIf, ev_for, ev_frz, ev_asg, ev_par2, ev_par3, ev_mVal, ev_mOwn, ev_app, ev_setv, ev_sets0, ev_sets1, ev_stv, ev_bnm, ev_btp, ev_bl0, ev_bl1, ev_R1, ev_R2, ev_iL, ev_iT, ev_itL, ev_itT, ev_forNil, ev_nolI, ev_nolN, ev_nolS, ev_nolB, ev_nolT, ev_nolL0, ev_nolL1, ev_cTrue, ev_wipe, Rz.bind_ok, Rz.bind_exc, Rz.bind_bad, Rz.ofO_some, Rz.ofO_none, onR_ok, onR_exc, onR_bad, onO_some, onO_none, List.getElem?_cons_zero, List.getElem?_cons_succ, ite_true, ite_false, if_true, if_false, reduceIte, Nat.reduceEqDiff, reduceCtorEq, Option.map_some, Option.bind_some, List.cons_append, List.nil_append, Option.map_none, Bool.false_eq_true, Bool.not_true, Bool.not_false, decide_true, decide_false, decide_eq_true_eq, beq_self_eq_true, ev_iSq, ev_itS1, ev_itS2, ev_itS3, ev_itS4, ev_iEn, ev_enS1, ev_enS2, ev_iZp, ev_zpS1, ev_zpS2, ev_Ch, ev_Sl, ev_O0, ev_O1, ev_iO, ev_slT, ev_slL, ev_Rg, ev_Rg3, ev_Ls, ev_lsT, ev_lsL, ev_Isi, ev_Isi2, ev_Rev, ev_revT, ev_Wk, ev_wkN, ev_wkT, ev_tupN, ev_CntT, ev_ctT, ev_IxT, ev_ixT', ev_IxL, ev_ixL', ev_Cnt, ev_ctL, ev_Dic, ev_dg, ev_Sub, ev_Ext, ev_trI, ev_trT, ev_trL, ev_MmD, eq_self, ev_IsE, ev_CallH, ev_unN, ev_unR, ev_TryA, ev_Try, ev_exN, ev_exR, ev_exE, ev_tyN, ev_tyR, ev_tyE, ev_Raise, ev_noxN, ev_noxR, ev_Trg, ev_Cat, h0], by simp only [ev_C, ev_Var, ev_Bor, ev_Nl, ev_Bin, ev_Tup, ev_L, ev_Fn, ev_Call, ev_nil, ev_cons, ev_If, ev_And, ev_Or, ev_Not, ev_cAnd, ev_cOr, ev_cNot, ev_cB, ev_cTr, ev_toB, ev_IsN, ev_NotN, ev_isN_non, ev_isN_int, ev_isN_str, ev_isN_tup, ev_isN_bl, ev_MulL, ev_MulR, ev_DivC, ev_ModC, ev_Neg, ev_addI, ev_subI, ev_ltI, ev_leI, ev_gtI, ev_geI, ev_eqI, ev_neI, ev_eqS, ev_neS, ev_eqN, ev_neN, ev_eqNI, ev_neNI, ev_eqIN, ev_neIN, ev_eqB, ev_neB, ev_isB, ev_notB, ev_absI, ev_min2, ev_max2, ev_lenT, ev_lenL, ev_lenS, ev_tupL, ev_tupT, ev_intI, ev_intB, ev_ixT, ev_ixL, ev_ixS, at0, at1, at2, at3, atM1, ev_seq, ev_set, ev_own, ev_ret, ev_drop, ev_sIf, ev_for, ev_frz, ev_asg, ev_par2, ev_par3, ev_mVal, ev_mOwn, ev_app, ev_setv, ev_sets0, ev_sets1, ev_stv, ev_bnm, ev_btp, ev_bl0, ev_bl1, ev_R1, ev_R2, ev_iL, ev_iT, ev_itL, ev_itT, ev_forNil, ev_nolI, ev_nolN, ev_nolS, ev_nolB, ev_nolT, ev_nolL0, ev_nolL1, ev_cTrue, ev_wipe, Rz.bind_ok, Rz.bind_exc, Rz.bind_bad, Rz.ofO_some, Rz.ofO_none, onR_ok, onR_exc, onR_bad, onO_some, onO_none, List.getElem?_cons_zero, List.getElem?_cons_succ, ite_true, ite_false, if_true, if_false, reduceIte, Nat.reduceEqDiff, reduceCtorEq, Option.map_some, Option.bind_some, List.cons_append, List.nil_append, Option.map_none, Bool.false_eq_true, Bool.not_true, Bool.not_false, decide_true, decide_false, decide_eq_true_eq, beq_self_eq_true, ev_iSq, ev_itS1, ev_itS2, ev_itS3, ev_itS4, ev_iEn, ev_enS1, ev_enS2, ev_iZp, ev_zpS1, ev_zpS2, ev_Ch, ev_Sl, ev_O0, ev_O1, ev_iO, ev_slT, ev_slL, ev_Rg, ev_Rg3, ev_Ls, ev_lsT, ev_lsL, ev_Isi, ev_Isi2, ev_Rev, ev_revT, ev_Wk, ev_wkN, ev_wkT, ev_tupN, ev_CntT, ev_ctT, ev_IxT, ev_ixT', ev_IxL, ev_ixL', ev_Cnt, ev_ctL, ev_Dic, ev_dg, ev_Sub, ev_Ext, ev_trI, ev_trT, ev_trL, ev_MmD, eq_self, ev_IsE, ev_CallH, ev_unN, ev_unR, ev_TryA, ev_Try, ev_exN, ev_exR, ev_exE, ev_tyN, ev_tyR, ev_tyE, ev_Raise, ev_noxN, ev_noxR, ev_Trg, ev_Cat, h1], by simp only [ev_C, ev_Var, ev_Bor, ev_Nl, ev_Bin, ev_Tup, ev_L, ev_Fn, ev_Call, ev_nil, ev_cons, ev_If, ev_And, ev_Or, ev_Not, ev_cAnd, ev_cOr, ev_cNot, ev_cB, ev_cTr, ev_toB, ev_IsN, ev_NotN, ev_isN_non, ev_isN_int, ev_isN_str, ev_isN_tup, ev_isN_bl, ev_MulL, ev_MulR, ev_DivC, ev_ModC, ev_Neg, ev_addI, ev_subI, ev_ltI, ev_leI, ev_gtI, ev_geI, ev_eqI, ev_neI, ev_eqS, ev_neS, ev_eqN, ev_neN, ev_eqNI, ev_neNI, ev_eqIN, ev_neIN, ev_eqB, ev_neB, ev_isB, ev_notB, ev_absI, ev_min2, ev_max2, ev_lenT, ev_lenL, ev_lenS, ev_tupL, ev_tupT, ev_intI, ev_intB, ev_ixT, ev_ixL, ev_ixS, at0, at1, at2, at3, atM1, ev_seq, ev_set, ev_own, ev_ret, ev_drop, ev_sIf, ev_for, ev_frz, ev_asg, ev_par2, ev_par3, ev_mVal, ev_mOwn, ev_app, ev_setv, ev_sets0, ev_sets1, ev_stv, ev_bnm, ev_btp, ev_bl0, ev_bl1, ev_R1, ev_R2, ev_iL, ev_iT, ev_itL, ev_itT, ev_forNil, ev_nolI, ev_nolN, ev_nolS, ev_nolB, ev_nolT, ev_nolL0, ev_nolL1, ev_cTrue, ev_wipe, Rz.bind_ok, Rz.bind_exc, Rz.bind_bad, Rz.ofO_some, Rz.ofO_none, onR_ok, onR_exc, onR_bad, onO_some, onO_none, List.getElem?_cons_zero, List.getElem?_cons_succ, ite_true, ite_false, if_true, if_false, reduceIte, Nat.reduceEqDiff, reduceCtorEq, Option.map_some, Option.bind_some, List.cons_append, List.nil_append, Option.map_none, Bool.false_eq_true, Bool.not_true, Bool.not_false, decide_true, decide_false, decide_eq_true_eq, beq_self_eq_true, ev_iSq, ev_itS1, ev_itS2, ev_itS3, ev_itS4, ev_iEn, ev_enS1, ev_enS2, ev_iZp, ev_zpS1, ev_zpS2, ev_Ch, ev_Sl, ev_O0, ev_O1, ev_iO, ev_slT, ev_slL, ev_Rg, ev_Rg3, ev_Ls, ev_lsT, ev_lsL, ev_Isi, ev_Isi2, ev_Rev, ev_revT, ev_Wk, ev_wkN, ev_wkT, ev_tupN, ev_CntT, ev_ctT, ev_IxT, ev_ixT', ev_IxL, ev_ixL', ev_Cnt, ev_ctL, ev_Dic, ev_dg, ev_Sub, ev_Ext, ev_trI, ev_trT, ev_trL, ev_MmD, eq_self, ev_IsE, ev_CallH, ev_unN, ev_unR, ev_TryA, ev_Try, ev_exN, ev_exR, ev_exE, ev_tyN, ev_tyR, ev_tyE, ev_Raise, ev_noxN, ev_noxR, ev_Trg, ev_Cat, h3], by simp only [ev_C, ev_Var, ev_Bor, ev_Nl, ev_Bin, ev_Tup, ev_L, ev_Fn, ev_Call, ev_nil, ev_cons, ev_If, ev_And, ev_Or, ev_Not, ev_cAnd, ev_cOr, ev_cNot, ev_cB, ev_cTr, ev_toB, ev_IsN, ev_NotN, ev_isN_non, ev_isN_int, ev_isN_str, ev_isN_tup, ev_isN_bl, ev_MulL, ev_MulR, ev_DivC, ev_ModC, ev_Neg, ev_addI, ev_subI, ev_ltI, ev_leI, ev_gtI, ev_geI, ev_eqI, ev_neI, ev_eqS, ev_neS, ev_eqN, ev_neN, ev_eqNI, ev_neNI, ev_eqIN, ev_neIN, ev_eqB, ev_neB, ev_isB, ev_notB, ev_absI, ev_min2, ev_max2, ev_lenT, ev_lenL, ev_lenS, ev_tupL, ev_tupT, ev_intI, ev_intB, ev_ixT, ev_ixL, ev_ixS, at0, at1, at2, at3, atM1, ev_seq, ev_set, ev_own, ev_ret, ev_drop, ev_sIf, ev_for, ev_frz, ev_asg, ev_par2, ev_par3, ev_mVal, ev_mOwn, ev_app, ev_setv, ev_sets0, ev_sets1, ev_stv, ev_bnm, ev_btp, ev_bl0, ev_bl1, ev_R1, ev_R2, ev_iL, ev_iT, ev_itL, ev_itT, ev_forNil, ev_nolI, ev_nolN, ev_nolS, ev_nolB, ev_nolT, ev_nolL0, ev_nolL1, ev_cTrue, ev_wipe, Rz.bind_ok, Rz.bind_exc, Rz.bind_bad, Rz.ofO_some, Rz.ofO_none, onR_ok, onR_exc, onR_bad, onO_some, onO_none, List.getElem?_cons_zero, List.getElem?_cons_succ, ite_true, ite_false, if_true, if_false, reduceIte, Nat.reduceEqDiff, reduceCtorEq, Option.map_some, Option.bind_some, List.cons_append, List.nil_append, Option.map_none, Bool.false_eq_true, Bool.not_true, Bool.not_false, decide_true, decide_false, decide_eq_true_eq, beq_self_eq_true, ev_iSq, ev_itS1, ev_itS2, ev_itS3, ev_itS4, ev_iEn, ev_enS1, ev_enS2, ev_iZp, ev_zpS1, ev_zpS2, ev_Ch, ev_Sl, ev_O0, ev_O1, ev_iO, ev_slT, ev_slL, ev_Rg, ev_Rg3, ev_Ls, ev_lsT, ev_lsL, ev_Isi, ev_Isi2, ev_Rev, ev_revT, ev_Wk, ev_wkN, ev_wkT, ev_tupN, ev_CntT, ev_ctT, ev_IxT, ev_ixT', ev_IxL, ev_ixL', ev_Cnt, ev_ctL, ev_Dic, ev_dg, ev_Sub, ev_Ext, ev_trI, ev_trT, ev_trL, ev_MmD, eq_self, ev_IsE, ev_CallH, ev_unN, ev_unR, ev_TryA, ev_Try, ev_exN, ev_exR, ev_exE, ev_tyN, ev_tyR, ev_tyE, ev_Raise, ev_noxN, ev_noxR, ev_Trg, ev_Cat, h9], ⟨B ++ [r], by simp only [ev_C, ev_Var, ev_Bor, ev_Nl, ev_Bin, ev_Tup, ev_L, ev_Fn, ev_Call, ev_nil, ev_cons, ev_If, ev_And, ev_Or, ev_Not, ev_cAnd, ev_cOr, ev_cNot, ev_cB, ev_cTr, ev_toB, ev_IsN, ev_NotN, ev_isN_non, ev_isN_int, ev_isN_str, ev_isN_tup, ev_isN_bl, ev_MulL, ev_MulR, ev_DivC, ev_ModC, ev_Neg, ev_addI, ev_subI, ev_ltI, ev_leI, ev_gtI, ev_geI, ev_eqI, ev_neI, ev_eqS, ev_neS, ev_eqN, ev_neN, ev_eqNI, ev_neNI, ev_eqIN, ev_neIN, ev_eqB, ev_neB, ev_isB, ev_notB, ev_absI, ev_min2, ev_max2, ev_lenT, ev_lenL, ev_lenS, ev_tupL, ev_tupT, ev_intI, ev_intB, ev_ixT, ev_ixL, ev_ixS, at0, at1, at2, at3, atM1, ev_seq, ev_set, ev_own, ev_ret, ev_drop, ev_sIf, ev_for, ev_frz, ev_asg, ev_par2, ev_par3, ev_mVal, ev_mOwn, ev_app, ev_setv, ev_sets0, ev_sets1, ev_stv, ev_bnm, ev_btp, ev_bl0, ev_bl1, ev_R1, ev_R2, ev_iL, ev_iT, ev_itL, ev_itT, ev_forNil, ev_nolI, ev_nolN, ev_nolS, ev_nolB, ev_nolT, ev_nolL0, ev_nolL1, ev_cTrue, ev_wipe, Rz.bind_ok, Rz.bind_exc, Rz.bind_bad, Rz.ofO_some, Rz.ofO_none, onR_ok, onR_exc, onR_bad, onO_some, onO_none, List.getElem?_cons_zero, List.getElem?_cons_succ, ite_true, ite_false, if_true, if_false, reduceIte, Nat.reduceEqDiff, reduceCtorEq, Option.map_some, Option.bind_some, List.cons_append, List.nil_append, Option.map_none, Bool.false_eq_true, Bool.not_true, Bool.not_false, decide_true, decide_false, decide_eq_true_eq, beq_self_eq_true, ev_iSq, ev_itS1, ev_itS2, ev_itS3, ev_itS4, ev_iEn, ev_enS1, ev_enS2, ev_iZp, ev_zpS1, ev_zpS2, ev_Ch, ev_Sl, ev_O0, ev_O1, ev_iO, ev_slT, ev_slL, ev_Rg, ev_Rg3, ev_Ls, ev_lsT, ev_lsL, ev_Isi, ev_Isi2, ev_Rev, ev_revT, ev_Wk, ev_wkN, ev_wkT, ev_tupN, ev_CntT, ev_ctT, ev_IxT, ev_ixT', ev_IxL, ev_ixL', ev_Cnt, ev_ctL, ev_Dic, ev_dg, ev_Sub, ev_Ext, ev_trI, ev_trT, ev_trL, ev_MmD, eq_self, ev_IsE, ev_CallH, ev_unN, ev_unR, ev_TryA, ev_Try, ev_exN, ev_exR, ev_exE, ev_tyN, ev_tyR, ev_tyE, ev_Raise, ev_noxN, ev_noxR, ev_Trg, ev_Cat], b2.app (.cons r2 .nil), by rw [List.length_append]; simp only [List.length_cons, List.length_nil]; omega⟩, ⟨S ++ [q], by simp only [ev_C, ev_Var, ev_Bor, ev_Nl, ev_Bin, ev_Tup, ev_L, ev_Fn, ev_Call, ev_nil, ev_cons, ev_If, ev_And, ev_Or, ev_Not, ev_cAnd, ev_cOr, ev_cNot, ev_cB, ev_cTr, ev_toB, ev_IsN, ev_NotN, ev_isN_non, ev_isN_int, ev_isN_str, ev_isN_tup, ev_isN_bl, ev_MulL, ev_MulR, ev_DivC, ev_ModC, ev_Neg, ev_addI, ev_subI, ev_ltI, ev_leI, ev_gtI, ev_geI, ev_eqI, ev_neI, ev_eqS, ev_neS, ev_eqN, ev_neN, ev_eqNI, ev_neNI, ev_eqIN, ev_neIN, ev_eqB, ev_neB, ev_isB, ev_notB, ev_absI, ev_min2, ev_max2, ev_lenT, ev_lenL, ev_lenS, ev_tupL, ev_tupT, ev_intI, ev_intB, ev_ixT, ev_ixL, ev_ixS, at0, at1, at2, at3, atM1, ev_seq, ev_set, ev_own, ev_ret, ev_drop, ev_sIf, ev_for, ev_frz, ev_asg, ev_par2, ev_par3, ev_mVal, ev_mOwn, ev_app, ev_setv, ev_sets0, ev_sets1, ev_stv, ev_bnm, ev_btp, ev_bl0, ev_bl1, ev_R1, ev_R2, ev_iL, ev_iT, ev_itL, ev_itT, ev_forNil, ev_nolI, ev_nolN, ev_nolS, ev_nolB, ev_nolT, ev_nolL0, ev_nolL1, ev_cTrue, ev_wipe, Rz.bind_ok, Rz.bind_exc, Rz.bind_bad, Rz.ofO_some, Rz.ofO_none, onR_ok, onR_exc, onR_bad, onO_some, onO_none, List.getElem?_cons_zero, List.getElem?_cons_succ, ite_true, ite_false, if_true, if_false, reduceIte, Nat.reduceEqDiff, reduceCtorEq, Option.map_some, Option.bind_some, List.cons_append, List.nil_append, Option.map_none, Bool.false_eq_true, Bool.not_true, Bool.not_false, decide_true, decide_false, decide_eq_true_eq, beq_self_eq_true, ev_iSq, ev_itS1, ev_itS2, ev_itS3, ev_itS4, ev_iEn, ev_enS1, ev_enS2, ev_iZp, ev_zpS1, ev_zpS2, ev_Ch, ev_Sl, ev_O0, ev_O1, ev_iO, ev_slT, ev_slL, ev_Rg, ev_Rg3, ev_Ls, ev_lsT, ev_lsL, ev_Isi, ev_Isi2, ev_Rev, ev_revT, ev_Wk, ev_wkN, ev_wkT, ev_tupN, ev_CntT, ev_ctT, ev_IxT, ev_ixT', ev_IxL, ev_ixL', ev_Cnt, ev_ctL, ev_Dic, ev_dg, ev_Sub, ev_Ext, ev_trI, ev_trT, ev_trL, ev_MmD, eq_self, ev_IsE, ev_CallH, ev_unN, ev_unR, ev_TryA, ev_Try, ev_exN, ev_exR, ev_exE, ev_tyN, ev_tyR, ev_tyE, ev_Raise, ev_noxN, ev_noxR, ev_Trg, ev_Cat], s2.app (.cons (od_le (by decide) q2) .nil), by rw [List.length_append]; simp only [List.length_cons, List.length_nil]; omega⟩⟩⟩
structure Q01 (ns : List Int) (b : Book) (e : En) : Prop where
  h0 : e.v 0 = .val (.scr ns)
  h3 : e.v 3 = .val b.d
theorem tst01 {f g : En → Rz D} {c : Bool} {e : En} (hf : f e = .ok (.bl c)) (hg : g e = .ok (.bl c)) : True := trivial
theorem bk01 {ns : List Int} {b : Book} {L : List D} {d : D} (hd : od 6 d = true) {e : En} (h : Q01 ns b e ∧ e.v 10 = .own L) : Nx (g_law_b1 (e.set 13 (.val d))) (fun e => Q01 ns b e ∧ e.v 10 = .own L) := by
  obtain ⟨⟨h0, h3⟩, h10⟩ := h
  obtain ⟨c, c1, c2⟩ := books_eq (by decide) hd
  unfold g_law_b1
  refine Nx.seq (e1 := _) (by simp only [ev_C, ev_Var, ev_Bor, ev_Nl, ev_Bin, ev_Tup, ev_L, ev_Fn, ev_Call, ev_nil, ev_cons, ev_If, ev_And, ev_Or, ev_Not, ev_cAnd, ev_cOr, ev_cNot, ev_cB, ev_cTr, ev_toB, ev_IsN, ev_NotN, ev_isN_non, ev_isN_int, ev_isN_str, ev_isN_tup, ev_isN_bl, ev_MulL, ev_MulR, ev_DivC, ev_ModC, ev_Neg, ev_addI, ev_subI, ev_ltI, ev_leI, ev_gtI, ev_geI, ev_eqI, ev_neI, ev_eqS, ev_neS, ev_eqN, ev_neN, ev_eqNI, ev_neNI, ev_eqIN, ev_neIN, ev_eqB, ev_neB, ev_isB, ev_notB, ev_absI, ev_min2, ev_max2, ev_lenT, ev_lenL, ev_lenS, ev_tupL, ev_tupT, ev_intI, ev_intB, ev_ixT, ev_ixL, ev_ixS, at0, at1, at2, at3, atM1, ev_seq, ev_set, ev_own, ev_ret, ev_drop, ev_sIf, ev_for, ev_frz, ev_asg, ev_par2, ev_par3, ev_mVal, ev_mOwn, ev_app, ev_setv, ev_sets0, ev_sets1, ev_stv, ev_bnm, ev_btp, ev_bl0, ev_bl1, ev_R1, ev_R2, ev_iL, ev_iT, ev_itL, ev_itT, ev_forNil, ev_nolI, ev_nolN, ev_nolS, ev_nolB, ev_nolT, ev_nolL0, ev_nolL1, ev_cTrue, ev_wipe, Rz.bind_ok, Rz.bind_exc, Rz.bind_bad, Rz.ofO_some, Rz.ofO_none, onR_ok, onR_exc, onR_bad, onO_some, onO_none, List.getElem?_cons_zero, List.getElem?_cons_succ, ite_true, ite_false, if_true, if_false, reduceIte, Nat.reduceEqDiff, reduceCtorEq, Option.map_some, Option.bind_some, List.cons_append, List.nil_append, Option.map_none, Bool.false_eq_true, Bool.not_true, Bool.not_false, decide_true, decide_false, decide_eq_true_eq, beq_self_eq_true, ev_iSq, ev_itS1, ev_itS2, ev_itS3, ev_itS4, ev_iEn, ev_enS1, ev_enS2, ev_iZp, ev_zpS1, ev_zpS2, ev_Ch, ev_Sl, ev_O0, ev_O1, ev_iO, ev_slT, ev_slL, ev_Rg, ev_Rg3, ev_Ls, ev_lsT, ev_lsL, ev_Isi, ev_Isi2, ev_Rev, ev_revT, ev_Wk, ev_wkN, ev_wkT, ev_tupN, ev_CntT, ev_ctT, ev_IxT, ev_ixT', ev_IxL, ev_ixL', ev_Cnt, ev_ctL, ev_Dic, ev_dg, ev_Sub, ev_Ext, ev_trI, ev_trT, ev_trL, ev_MmD, eq_self, ev_IsE, ev_CallH, ev_unN, ev_unR, ev_TryA, ev_Try, ev_exN, ev_exR, ev_exE, ev_tyN, ev_tyR, ev_tyE, ev_Raise, ev_noxN, ev_noxR, ev_Trg, ev_Cat, c1, c2]; rfl) (Nx.iff1 ?_ ⟨⟨by simp only [ev_C, ev_Var, ev_Bor, ev_Nl, ev_Bin, ev_Tup, ev_L, ev_Fn, ev_Call, ev_nil, ev_cons, ev_If, ev_And, ev_Or, ev_Not, ev_cAnd, ev_cOr, ev_cNot, ev_cB, ev_cTr, ev_toB, ev_IsN, ev_NotN, ev_isN_non, ev_isN_int, ev_isN_str, ev_isN_tup, ev_isN_bl, ev_MulL, ev_MulR, ev_DivC, ev_ModC, ev_Neg, ev_addI, ev_subI, ev_ltI, ev_leI, ev_gtI, ev_geI, ev_eqI, ev_neI, ev_eqS, ev_neS, ev_eqN, ev_neN, ev_eqNI, ev_neNI, ev_eqIN, ev_neIN, ev_eqB, ev_neB, ev_isB, ev_notB, ev_absI, ev_min2, ev_max2, ev_lenT, ev_lenL, ev_lenS, ev_tupL, ev_tupT, ev_intI, ev_intB, ev_ixT, ev_ixL, ev_ixS, at0, at1, at2, at3, atM1, ev_seq, ev_set, ev_own, ev_ret, ev_drop, ev_sIf, ev_for, ev_frz, ev_asg, ev_par2, ev_par3, ev_mVal, ev_mOwn, ev_app, ev_setv, ev_sets0, ev_sets1, ev_stv, ev_bnm, ev_btp, ev_bl0, ev_bl1, ev_R1, ev_R2, ev_iL, ev_iT, ev_itL, ev_itT, ev_forNil, ev_nolI, ev_nolN, ev_nolS, ev_nolB, ev_nolT, ev_nolL0, ev_nolL1, ev_cTrue, ev_wipe, Rz.bind_ok, Rz.bind_exc, Rz.bind_bad, Rz.ofO_some, Rz.ofO_none, onR_ok, onR_exc, onR_bad, onO_some, onO_none, List.getElem?_cons_zero, List.getElem?_cons_succ, ite_true, ite_false, if_true, if_false, reduceIte, Nat.reduceEqDiff, reduceCtorEq, Option.map_some, Option.bind_some, List.cons_append, List.nil_append, Option.map_none, Bool.false_eq_true, Bool.not_true, Bool.not_false, decide_true, decide_false, decide_eq_true_eq, beq_self_eq_true, ev_iSq, ev_itS1, ev_itS2, ev_itS3, ev_itS4, ev_iEn, ev_enS1, ev_enS2, ev_iZp, ev_zpS1, ev_zpS2, ev_Ch, ev_Sl, ev_O0, ev_O1, ev_iO, ev_slT, ev_slL, ev_Rg, ev_Rg3, ev_Ls, ev_lsT, ev_lsL, ev_Isi, ev_Isi2, ev_Rev, ev_revT, ev_Wk, ev_wkN, ev_wkT, ev_tupN, ev_CntT, ev_ctT, ev_IxT, ev_ixT', ev_IxL, ev_ixL', ev_Cnt, ev_ctL, ev_Dic, ev_dg, ev_Sub, ev_Ext, ev_trI, ev_trT, ev_trL, ev_MmD, eq_self, ev_IsE, ev_CallH, ev_unN, ev_unR, ev_TryA, ev_Try, ev_exN, ev_exR, ev_exE, ev_tyN, ev_tyR, ev_tyE, ev_Raise, ev_noxN, ev_noxR, ev_Trg, ev_Cat, h0], by simp only [ev_C, ev_Var, ev_Bor, ev_Nl, ev_Bin, ev_Tup, ev_L, ev_Fn, ev_Call, ev_nil, ev_cons, ev_If, ev_And, ev_Or, ev_Not, ev_cAnd, ev_cOr, ev_cNot, ev_cB, ev_cTr, ev_toB, ev_IsN, ev_NotN, ev_isN_non, ev_isN_int, ev_isN_str, ev_isN_tup, ev_isN_bl, ev_MulL, ev_MulR, ev_DivC, ev_ModC, ev_Neg, ev_addI, ev_subI, ev_ltI, ev_leI, ev_gtI, ev_geI, ev_eqI, ev_neI, ev_eqS, ev_neS, ev_eqN, ev_neN, ev_eqNI, ev_neNI, ev_eqIN, ev_neIN, ev_eqB, ev_neB, ev_isB, ev_notB, ev_absI, ev_min2, ev_max2, ev_lenT, ev_lenL, ev_lenS, ev_tupL, ev_tupT, ev_intI, ev_intB, ev_ixT, ev_ixL, ev_ixS, at0, at1, at2, at3, atM1, ev_seq, ev_set, ev_own, ev_ret, ev_drop, ev_sIf, ev_for, ev_frz, ev_asg, ev_par2, ev_par3, ev_mVal, ev_mOwn, ev_app, ev_setv, ev_sets0, ev_sets1, ev_stv, ev_bnm, ev_btp, ev_bl0, ev_bl1, ev_R1, ev_R2, ev_iL, ev_iT, ev_itL, ev_itT, ev_forNil, ev_nolI, ev_nolN, ev_nolS, ev_nolB, ev_nolT, ev_nolL0, ev_nolL1, ev_cTrue, ev_wipe, Rz.bind_ok, Rz.bind_exc, Rz.bind_bad, Rz.ofO_some, Rz.ofO_none, onR_ok, onR_exc, onR_bad, onO_some, onO_none, List.getElem?_cons_zero, List.getElem?_cons_succ, ite_true, ite_false, if_true, if_false, reduceIte, Nat.reduceEqDiff, reduceCtorEq, Option.map_some, Option.bind_some, List.cons_append, List.nil_append, Option.map_none, Bool.false_eq_true, Bool.not_true, Bool.not_false, decide_true, decide_false, decide_eq_true_eq, beq_self_eq_true, ev_iSq, ev_itS1, ev_itS2, ev_itS3, ev_itS4, ev_iEn, ev_enS1, ev_enS2, ev_iZp, ev_zpS1, ev_zpS2, ev_Ch, ev_Sl, ev_O0, ev_O1, ev_iO, ev_slT, ev_slL, ev_Rg, ev_Rg3, ev_Ls, ev_lsT, ev_lsL, ev_Isi, ev_Isi2, ev_Rev, ev_revT, ev_Wk, ev_wkN, ev_wkT, ev_tupN, ev_CntT, ev_ctT, ev_IxT, ev_ixT', ev_IxL, ev_ixL', ev_Cnt, ev_ctL, ev_Dic, ev_dg, ev_Sub, ev_Ext, ev_trI, ev_trT, ev_trL, ev_MmD, eq_self, ev_IsE, ev_CallH, ev_unN, ev_unR, ev_TryA, ev_Try, ev_exN, ev_exR, ev_exE, ev_tyN, ev_tyR, ev_tyE, ev_Raise, ev_noxN, ev_noxR, ev_Trg, ev_Cat, h3]⟩, by simp only [ev_C, ev_Var, ev_Bor, ev_Nl, ev_Bin, ev_Tup, ev_L, ev_Fn, ev_Call, ev_nil, ev_cons, ev_If, ev_And, ev_Or, ev_Not, ev_cAnd, ev_cOr, ev_cNot, ev_cB, ev_cTr, ev_toB, ev_IsN, ev_NotN, ev_isN_non, ev_isN_int, ev_isN_str, ev_isN_tup, ev_isN_bl, ev_MulL, ev_MulR, ev_DivC, ev_ModC, ev_Neg, ev_addI, ev_subI, ev_ltI, ev_leI, ev_gtI, ev_geI, ev_eqI, ev_neI, ev_eqS, ev_neS, ev_eqN, ev_neN, ev_eqNI, ev_neNI, ev_eqIN, ev_neIN, ev_eqB, ev_neB, ev_isB, ev_notB, ev_absI, ev_min2, ev_max2, ev_lenT, ev_lenL, ev_lenS, ev_tupL, ev_tupT, ev_intI, ev_intB, ev_ixT, ev_ixL, ev_ixS, at0, at1, at2, at3, atM1, ev_seq, ev_set, ev_own, ev_ret, ev_drop, ev_sIf, ev_for, ev_frz, ev_asg, ev_par2, ev_par3, ev_mVal, ev_mOwn, ev_app, ev_setv, ev_sets0, ev_sets1, ev_stv, ev_bnm, ev_btp, ev_bl0, ev_bl1, ev_R1, ev_R2, ev_iL, ev_iT, ev_itL, ev_itT, ev_forNil, ev_nolI, ev_nolN, ev_nolS, ev_nolB, ev_nolT, ev_nolL0, ev_nolL1, ev_cTrue, ev_wipe, Rz.bind_ok, Rz.bind_exc, Rz.bind_bad, Rz.ofO_some, Rz.ofO_none, onR_ok, onR_exc, onR_bad, onO_some, onO_none, List.getElem?_cons_zero, List.getElem?_cons_succ, ite_true, ite_false, if_true, if_false, reduceIte, Nat.reduceEqDiff, reduceCtorEq, Option.map_some, Option.bind_some, List.cons_append, List.nil_append, Option.map_none, Bool.false_eq_true, Bool.not_true, Bool.not_false, decide_true, decide_false, decide_eq_true_eq, beq_self_eq_true, ev_iSq, ev_itS1, ev_itS2, ev_itS3, ev_itS4, ev_iEn, ev_enS1, ev_enS2, ev_iZp, ev_zpS1, ev_zpS2, ev_Ch, ev_Sl, ev_O0, ev_O1, ev_iO, ev_slT, ev_slL, ev_Rg, ev_Rg3, ev_Ls, ev_lsT, ev_lsL, ev_Isi, ev_Isi2, ev_Rev, ev_revT, ev_Wk, ev_wkN, ev_wkT, ev_tupN, ev_CntT, ev_ctT, ev_IxT, ev_ixT', ev_IxL, ev_ixL', ev_Cnt, ev_ctL, ev_Dic, ev_dg, ev_Sub, ev_Ext, ev_trI, ev_trT, ev_trL, ev_MmD, eq_self, ev_IsE, ev_CallH, ev_unN, ev_unR, ev_TryA, ev_Try, ev_exN, ev_exR, ev_exE, ev_tyN, ev_tyR, ev_tyE, ev_Raise, ev_noxN, ev_noxR, ev_Trg, ev_Cat, h10]⟩)
  cases c <;> simp only [ev_C, ev_Var, ev_Bor, ev_Nl, ev_Bin, ev_Tup, ev_L, ev_Fn, ev_Call, ev_nil, ev_cons, ev_If, ev_And, ev_Or, ev_Not, ev_cAnd, ev_cOr, ev_cNot, ev_cB, ev_cTr, ev_toB, ev_IsN, ev_NotN, ev_isN_non, ev_isN_int, ev_isN_str, ev_isN_tup, ev_isN_bl, ev_MulL, ev_MulR, ev_DivC, ev_ModC, ev_Neg, ev_addI, ev_subI, ev_ltI, ev_leI, ev_gtI, ev_geI, ev_eqI, ev_neI, ev_eqS, ev_neS, ev_eqN, ev_neN, ev_eqNI, ev_neNI, ev_eqIN, ev_neIN, ev_eqB, ev_neB, ev_isB, ev_notB, ev_absI, ev_min2, ev_max2, ev_lenT, ev_lenL, ev_lenS, ev_tupL, ev_tupT, ev_intI, ev_intB, ev_ixT, ev_ixL, ev_ixS, at0, at1, at2, at3, atM1, ev_seq, ev_set, ev_own, ev_ret, ev_drop, ev_sIf, ev_for, ev_frz, ev_asg, ev_par2, ev_par3, ev_mVal, ev_mOwn, ev_app, ev_setv, ev_sets0, ev_sets1, ev_stv, ev_bnm, ev_btp, ev_bl0, ev_bl1, ev_R1, ev_R2, ev_iL, ev_iT, ev_itL, ev_itT, ev_forNil, ev_nolI, ev_nolN, ev_nolS, ev_nolB, ev_nolT, ev_nolL0, ev_nolL1, ev_cTrue, ev_wipe, Rz.bind_ok, Rz.bind_exc, Rz.bind_bad, Rz.ofO_some, Rz.ofO_none, onR_ok, onR_exc, onR_bad, onO_some, onO_none, List.getElem?_cons_zero, List.getElem?_cons_succ, ite_true, ite_false, if_true, if_false, reduceIte, Nat.reduceEqDiff, reduceCtorEq, Option.map_some, Option.bind_some, List.cons_append, List.nil_append, Option.map_none, Bool.false_eq_true, Bool.not_true, Bool.not_false, decide_true, decide_false, decide_eq_true_eq, beq_self_eq_true, ev_iSq, ev_itS1, ev_itS2, ev_itS3, ev_itS4, ev_iEn, ev_enS1, ev_enS2, ev_iZp, ev_zpS1, ev_zpS2, ev_Ch, ev_Sl, ev_O0, ev_O1, ev_iO, ev_slT, ev_slL, ev_Rg, ev_Rg3, ev_Ls, ev_lsT, ev_lsL, ev_Isi, ev_Isi2, ev_Rev, ev_revT, ev_Wk, ev_wkN, ev_wkT, ev_tupN, ev_CntT, ev_ctT, ev_IxT, ev_ixT', ev_IxL, ev_ixL', ev_Cnt, ev_ctL, ev_Dic, ev_dg, ev_Sub, ev_Ext, ev_trI, ev_trT, ev_trL, ev_MmD, eq_self, ev_IsE, ev_CallH, ev_unN, ev_unR, ev_TryA, ev_Try, ev_exN, ev_exR, ev_exE, ev_tyN, ev_tyR, ev_tyE, ev_Raise, ev_noxN, ev_noxR, ev_Trg, ev_Cat] <;> rfl
theorem st01 {ns : List Int} {b : Book} {d : D} (hd : od 6 d = true) {e : En} (h : Q01 ns b e) : Nx (g_law_b2 (e.set 13 (.val d))) (Q01 ns b) := by
  obtain ⟨h0, h3⟩ := h
  obtain ⟨c, c1, c2⟩ := states_eq b hd
  unfold g_law_b2
  refine Nx.seq (e1 := _) (by simp only [ev_C, ev_Var, ev_Bor, ev_Nl, ev_Bin, ev_Tup, ev_L, ev_Fn, ev_Call, ev_nil, ev_cons, ev_If, ev_And, ev_Or, ev_Not, ev_cAnd, ev_cOr, ev_cNot, ev_cB, ev_cTr, ev_toB, ev_IsN, ev_NotN, ev_isN_non, ev_isN_int, ev_isN_str, ev_isN_tup, ev_isN_bl, ev_MulL, ev_MulR, ev_DivC, ev_ModC, ev_Neg, ev_addI, ev_subI, ev_ltI, ev_leI, ev_gtI, ev_geI, ev_eqI, ev_neI, ev_eqS, ev_neS, ev_eqN, ev_neN, ev_eqNI, ev_neNI, ev_eqIN, ev_neIN, ev_eqB, ev_neB, ev_isB, ev_notB, ev_absI, ev_min2, ev_max2, ev_lenT, ev_lenL, ev_lenS, ev_tupL, ev_tupT, ev_intI, ev_intB, ev_ixT, ev_ixL, ev_ixS, at0, at1, at2, at3, atM1, ev_seq, ev_set, ev_own, ev_ret, ev_drop, ev_sIf, ev_for, ev_frz, ev_asg, ev_par2, ev_par3, ev_mVal, ev_mOwn, ev_app, ev_setv, ev_sets0, ev_sets1, ev_stv, ev_bnm, ev_btp, ev_bl0, ev_bl1, ev_R1, ev_R2, ev_iL, ev_iT, ev_itL, ev_itT, ev_forNil, ev_nolI, ev_nolN, ev_nolS, ev_nolB, ev_nolT, ev_nolL0, ev_nolL1, ev_cTrue, ev_wipe, Rz.bind_ok, Rz.bind_exc, Rz.bind_bad, Rz.ofO_some, Rz.ofO_none, onR_ok, onR_exc, onR_bad, onO_some, onO_none, List.getElem?_cons_zero, List.getElem?_cons_succ, ite_true, ite_false, if_true, if_false, reduceIte, Nat.reduceEqDiff, reduceCtorEq, Option.map_some, Option.bind_some, List.cons_append, List.nil_append, Option.map_none, Bool.false_eq_true, Bool.not_true, Bool.not_false, decide_true, decide_false, decide_eq_true_eq, beq_self_eq_true, ev_iSq, ev_itS1, ev_itS2, ev_itS3, ev_itS4, ev_iEn, ev_enS1, ev_enS2, ev_iZp, ev_zpS1, ev_zpS2, ev_Ch, ev_Sl, ev_O0, ev_O1, ev_iO, ev_slT, ev_slL, ev_Rg, ev_Rg3, ev_Ls, ev_lsT, ev_lsL, ev_Isi, ev_Isi2, ev_Rev, ev_revT, ev_Wk, ev_wkN, ev_wkT, ev_tupN, ev_CntT, ev_ctT, ev_IxT, ev_ixT', ev_IxL, ev_ixL', ev_Cnt, ev_ctL, ev_Dic, ev_dg, ev_Sub, ev_Ext, ev_trI, ev_trT, ev_trL, ev_MmD, eq_self, ev_IsE, ev_CallH, ev_unN, ev_unR, ev_TryA, ev_Try, ev_exN, ev_exR, ev_exE, ev_tyN, ev_tyR, ev_tyE, ev_Raise, ev_noxN, ev_noxR, ev_Trg, ev_Cat, h3, c1, c2]; rfl) (Nx.iff1 ?_ ⟨by simp only [ev_C, ev_Var, ev_Bor, ev_Nl, ev_Bin, ev_Tup, ev_L, ev_Fn, ev_Call, ev_nil, ev_cons, ev_If, ev_And, ev_Or, ev_Not, ev_cAnd, ev_cOr, ev_cNot, ev_cB, ev_cTr, ev_toB, ev_IsN, ev_NotN, ev_isN_non, ev_isN_int, ev_isN_str, ev_isN_tup, ev_isN_bl, ev_MulL, ev_MulR, ev_DivC, ev_ModC, ev_Neg, ev_addI, ev_subI, ev_ltI, ev_leI, ev_gtI, ev_geI, ev_eqI, ev_neI, ev_eqS, ev_neS, ev_eqN, ev_neN, ev_eqNI, ev_neNI, ev_eqIN, ev_neIN, ev_eqB, ev_neB, ev_isB, ev_notB, ev_absI, ev_min2, ev_max2, ev_lenT, ev_lenL, ev_lenS, ev_tupL, ev_tupT, ev_intI, ev_intB, ev_ixT, ev_ixL, ev_ixS, at0, at1, at2, at3, atM1, ev_seq, ev_set, ev_own, ev_ret, ev_drop, ev_sIf, ev_for, ev_frz, ev_asg, ev_par2, ev_par3, ev_mVal, ev_mOwn, ev_app, ev_setv, ev_sets0, ev_sets1, ev_stv, ev_bnm, ev_btp, ev_bl0, ev_bl1, ev_R1, ev_R2, ev_iL, ev_iT, ev_itL, ev_itT, ev_forNil, ev_nolI, ev_nolN, ev_nolS, ev_nolB, ev_nolT, ev_nolL0, ev_nolL1, ev_cTrue, ev_wipe, Rz.bind_ok, Rz.bind_exc, Rz.bind_bad, Rz.ofO_some, Rz.ofO_none, onR_ok, onR_exc, onR_bad, onO_some, onO_none, List.getElem?_cons_zero, List.getElem?_cons_succ, ite_true, ite_false, if_true, if_false, reduceIte, Nat.reduceEqDiff, reduceCtorEq, Option.map_some, Option.bind_some, List.cons_append, List.nil_append, Option.map_none, Bool.false_eq_true, Bool.not_true, Bool.not_false, decide_true, decide_false, decide_eq_true_eq, beq_self_eq_true, ev_iSq, ev_itS1, ev_itS2, ev_itS3, ev_itS4, ev_iEn, ev_enS1, ev_enS2, ev_iZp, ev_zpS1, ev_zpS2, ev_Ch, ev_Sl, ev_O0, ev_O1, ev_iO, ev_slT, ev_slL, ev_Rg, ev_Rg3, ev_Ls, ev_lsT, ev_lsL, ev_Isi, ev_Isi2, ev_Rev, ev_revT, ev_Wk, ev_wkN, ev_wkT, ev_tupN, ev_CntT, ev_ctT, ev_IxT, ev_ixT', ev_IxL, ev_ixL', ev_Cnt, ev_ctL, ev_Dic, ev_dg, ev_Sub, ev_Ext, ev_trI, ev_trT, ev_trL, ev_MmD, eq_self, ev_IsE, ev_CallH, ev_unN, ev_unR, ev_TryA, ev_Try, ev_exN, ev_exR, ev_exE, ev_tyN, ev_tyR, ev_tyE, ev_Raise, ev_noxN, ev_noxR, ev_Trg, ev_Cat, h0], by simp only [ev_C, ev_Var, ev_Bor, ev_Nl, ev_Bin, ev_Tup, ev_L, ev_Fn, ev_Call, ev_nil, ev_cons, ev_If, ev_And, ev_Or, ev_Not, ev_cAnd, ev_cOr, ev_cNot, ev_cB, ev_cTr, ev_toB, ev_IsN, ev_NotN, ev_isN_non, ev_isN_int, ev_isN_str, ev_isN_tup, ev_isN_bl, ev_MulL, ev_MulR, ev_DivC, ev_ModC, ev_Neg, ev_addI, ev_subI, ev_ltI, ev_leI, ev_gtI, ev_geI, ev_eqI, ev_neI, ev_eqS, ev_neS, ev_eqN, ev_neN, ev_eqNI, ev_neNI, ev_eqIN, ev_neIN, ev_eqB, ev_neB, ev_isB, ev_notB, ev_absI, ev_min2, ev_max2, ev_lenT, ev_lenL, ev_lenS, ev_tupL, ev_tupT, ev_intI, ev_intB, ev_ixT, ev_ixL, ev_ixS, at0, at1, at2, at3, atM1, ev_seq, ev_set, ev_own, ev_ret, ev_drop, ev_sIf, ev_for, ev_frz, ev_asg, ev_par2, ev_par3, ev_mVal, ev_mOwn, ev_app, ev_setv, ev_sets0, ev_sets1, ev_stv, ev_bnm, ev_btp, ev_bl0, ev_bl1, ev_R1, ev_R2, ev_iL, ev_iT, ev_itL, ev_itT, ev_forNil, ev_nolI, ev_nolN, ev_nolS, ev_nolB, ev_nolT, ev_nolL0, ev_nolL1, ev_cTrue, ev_wipe, Rz.bind_ok, Rz.bind_exc, Rz.bind_bad, Rz.ofO_some, Rz.ofO_none, onR_ok, onR_exc, onR_bad, onO_some, onO_none, List.getElem?_cons_zero, List.getElem?_cons_succ, ite_true, ite_false, if_true, if_false, reduceIte, Nat.reduceEqDiff, reduceCtorEq, Option.map_some, Option.bind_some, List.cons_append, List.nil_append, Option.map_none, Bool.false_eq_true, Bool.not_true, Bool.not_false, decide_true, decide_false, decide_eq_true_eq, beq_self_eq_true, ev_iSq, ev_itS1, ev_itS2, ev_itS3, ev_itS4, ev_iEn, ev_enS1, ev_enS2, ev_iZp, ev_zpS1, ev_zpS2, ev_Ch, ev_Sl, ev_O0, ev_O1, ev_iO, ev_slT, ev_slL, ev_Rg, ev_Rg3, ev_Ls, ev_lsT, ev_lsL, ev_Isi, ev_Isi2, ev_Rev, ev_revT, ev_Wk, ev_wkN, ev_wkT, ev_tupN, ev_CntT, ev_ctT, ev_IxT, ev_ixT', ev_IxL, ev_ixL', ev_Cnt, ev_ctL, ev_Dic, ev_dg, ev_Sub, ev_Ext, ev_trI, ev_trT, ev_trL, ev_MmD, eq_self, ev_IsE, ev_CallH, ev_unN, ev_unR, ev_TryA, ev_Try, ev_exN, ev_exR, ev_exE, ev_tyN, ev_tyR, ev_tyE, ev_Raise, ev_noxN, ev_noxR, ev_Trg, ev_Cat, h3]⟩)
  cases c <;> simp only [ev_C, ev_Var, ev_Bor, ev_Nl, ev_Bin, ev_Tup, ev_L, ev_Fn, ev_Call, ev_nil, ev_cons, ev_If, ev_And, ev_Or, ev_Not, ev_cAnd, ev_cOr, ev_cNot, ev_cB, ev_cTr, ev_toB, ev_IsN, ev_NotN, ev_isN_non, ev_isN_int, ev_isN_str, ev_isN_tup, ev_isN_bl, ev_MulL, ev_MulR, ev_DivC, ev_ModC, ev_Neg, ev_addI, ev_subI, ev_ltI, ev_leI, ev_gtI, ev_geI, ev_eqI, ev_neI, ev_eqS, ev_neS, ev_eqN, ev_neN, ev_eqNI, ev_neNI, ev_eqIN, ev_neIN, ev_eqB, ev_neB, ev_isB, ev_notB, ev_absI, ev_min2, ev_max2, ev_lenT, ev_lenL, ev_lenS, ev_tupL, ev_tupT, ev_intI, ev_intB, ev_ixT, ev_ixL, ev_ixS, at0, at1, at2, at3, atM1, ev_seq, ev_set, ev_own, ev_ret, ev_drop, ev_sIf, ev_for, ev_frz, ev_asg, ev_par2, ev_par3, ev_mVal, ev_mOwn, ev_app, ev_setv, ev_sets0, ev_sets1, ev_stv, ev_bnm, ev_btp, ev_bl0, ev_bl1, ev_R1, ev_R2, ev_iL, ev_iT, ev_itL, ev_itT, ev_forNil, ev_nolI, ev_nolN, ev_nolS, ev_nolB, ev_nolT, ev_nolL0, ev_nolL1, ev_cTrue, ev_wipe, Rz.bind_ok, Rz.bind_exc, Rz.bind_bad, Rz.ofO_some, Rz.ofO_none, onR_ok, onR_exc, onR_bad, onO_some, onO_none, List.getElem?_cons_zero, List.getElem?_cons_succ, ite_true, ite_false, if_true, if_false, reduceIte, Nat.reduceEqDiff, reduceCtorEq, Option.map_some, Option.bind_some, List.cons_append, List.nil_append, Option.map_none, Bool.false_eq_true, Bool.not_true, Bool.not_false, decide_true, decide_false, decide_eq_true_eq, beq_self_eq_true, ev_iSq, ev_itS1, ev_itS2, ev_itS3, ev_itS4, ev_iEn, ev_enS1, ev_enS2, ev_iZp, ev_zpS1, ev_zpS2, ev_Ch, ev_Sl, ev_O0, ev_O1, ev_iO, ev_slT, ev_slL, ev_Rg, ev_Rg3, ev_Ls, ev_lsT, ev_lsL, ev_Isi, ev_Isi2, ev_Rev, ev_revT, ev_Wk, ev_wkN, ev_wkT, ev_tupN, ev_CntT, ev_ctT, ev_IxT, ev_ixT', ev_IxL, ev_ixL', ev_Cnt, ev_ctL, ev_Dic, ev_dg, ev_Sub, ev_Ext, ev_trI, ev_trT, ev_trL, ev_MmD, eq_self, ev_IsE, ev_CallH, ev_unN, ev_unR, ev_TryA, ev_Try, ev_exN, ev_exR, ev_exE, ev_tyN, ev_tyR, ev_tyE, ev_Raise, ev_noxN, ev_noxR, ev_Trg, ev_Cat] <;> rfl
theorem od_lst {k : Nat} {ds : List D} (h : ∀ x ∈ ds, od k x = true) (hl : ds.length ≤ 1000) : od (k + 1) (.lst ds) = true := by
  simp only [od, Bool.and_eq_true, List.all_eq_true, decide_eq_true_eq]
  exact ⟨h, hl⟩
theorem k01 {ns : List Int} (k : Nat) (hk : k < 10) {e : En} (h : e.v 0 = .val (.scr ns)) : Nx (g_law_b3 (e.set 1 (.val (.int (0 + k))))) (fun e => e.v 0 = .val (.scr ns)) := by
  obtain ⟨c, hc⟩ := cell_ok ns (k := (0 + (k : Int)) % 9) (by omega)
  generalize hC : c + 31 * (0 + (k : Int)) = C
  obtain ⟨b, hb, hB⟩ := law_book_ok C
  have n1 := hb.n1
  have n2 := hb.n2
  have w1 := hb.w1
  have m1 := F_law_mix_eq (c := C) (p := 9833) (m := b.pw.length) (by decide) (by decide) (by omega)
  have m2 := F_law_mix_eq (c := C) (p := 9829) (m := 3) (by decide) (by decide) (by decide)
  have m3 := F_law_mix_eq (c := C) (p := 9817) (m := b.wait + 1) (by decide) (by decide) (by omega)
  have o2 := od_ints b.pw (by omega)
  have ob : od 6 b.d = true := od_le (by decide) (pd_od (bs_od b n2))
  have ol : od 6 (.lst [.int b.full, .int b.low, .tup (b.pw.map D.int), .int b.wait]) = true := by
    refine od_le (k := 3) (by decide) (od_lst (k := 2) (fun x hx => ?_) (by simp))
    simp only [List.mem_cons, List.not_mem_nil, or_false] at hx
    rcases hx with rfl | rfl | rfl | rfl
    · rfl
    · rfl
    · exact o2
    · rfl
  have oc : od 6 (.tup (cutL [.int b.full, .int b.low, .tup (b.pw.map D.int), .int b.wait] none (some 3))) = true := by
    refine od_le (k := 3) (by decide) (od_tup (k := 2) (fun x hx => ?_) (by have := len_cut [D.int b.full, .int b.low, .tup (b.pw.map D.int), .int b.wait] none (some 3); simp only [List.length_cons, List.length_nil] at this; omega))
    have := mem_cut hx
    simp only [List.mem_cons, List.not_mem_nil, or_false] at this
    rcases this with rfl | rfl | rfl | rfl
    · rfl
    · rfl
    · exact o2
    · rfl
  have c6 : ∀ l : List Int, l.length ≤ 1000 → od 2 (.tup (l.map D.int)) = true := od_ints
  obtain ⟨st, hst⟩ : ∃ s : D, s = .tup [.int (mixM C 9833 b.pw.length), .int (mixM C 9829 3 - 1), .int (mixM C 9817 (b.wait + 1))] := ⟨_, rfl⟩
  have ps : pd 2 st = true := by rw [hst]; rfl
  unfold g_law_b3
  refine Nx.set (d := .int C) (by simp only [ev_C, ev_Var, ev_Bor, ev_Nl, ev_Bin, ev_Tup, ev_L, ev_Fn, ev_Call, ev_nil, ev_cons, ev_If, ev_And, ev_Or, ev_Not, ev_cAnd, ev_cOr, ev_cNot, ev_cB, ev_cTr, ev_toB, ev_IsN, ev_NotN, ev_isN_non, ev_isN_int, ev_isN_str, ev_isN_tup, ev_isN_bl, ev_MulL, ev_MulR, ev_DivC, ev_ModC, ev_Neg, ev_addI, ev_subI, ev_ltI, ev_leI, ev_gtI, ev_geI, ev_eqI, ev_neI, ev_eqS, ev_neS, ev_eqN, ev_neN, ev_eqNI, ev_neNI, ev_eqIN, ev_neIN, ev_eqB, ev_neB, ev_isB, ev_notB, ev_absI, ev_min2, ev_max2, ev_lenT, ev_lenL, ev_lenS, ev_tupL, ev_tupT, ev_intI, ev_intB, ev_ixT, ev_ixL, ev_ixS, at0, at1, at2, at3, atM1, ev_seq, ev_set, ev_own, ev_ret, ev_drop, ev_sIf, ev_for, ev_frz, ev_asg, ev_par2, ev_par3, ev_mVal, ev_mOwn, ev_app, ev_setv, ev_sets0, ev_sets1, ev_stv, ev_bnm, ev_btp, ev_bl0, ev_bl1, ev_R1, ev_R2, ev_iL, ev_iT, ev_itL, ev_itT, ev_forNil, ev_nolI, ev_nolN, ev_nolS, ev_nolB, ev_nolT, ev_nolL0, ev_nolL1, ev_cTrue, ev_wipe, Rz.bind_ok, Rz.bind_exc, Rz.bind_bad, Rz.ofO_some, Rz.ofO_none, onR_ok, onR_exc, onR_bad, onO_some, onO_none, List.getElem?_cons_zero, List.getElem?_cons_succ, ite_true, ite_false, if_true, if_false, reduceIte, Nat.reduceEqDiff, reduceCtorEq, Option.map_some, Option.bind_some, List.cons_append, List.nil_append, Option.map_none, Bool.false_eq_true, Bool.not_true, Bool.not_false, decide_true, decide_false, decide_eq_true_eq, beq_self_eq_true, ev_iSq, ev_itS1, ev_itS2, ev_itS3, ev_itS4, ev_iEn, ev_enS1, ev_enS2, ev_iZp, ev_zpS1, ev_zpS2, ev_Ch, ev_Sl, ev_O0, ev_O1, ev_iO, ev_slT, ev_slL, ev_Rg, ev_Rg3, ev_Ls, ev_lsT, ev_lsL, ev_Isi, ev_Isi2, ev_Rev, ev_revT, ev_Wk, ev_wkN, ev_wkT, ev_tupN, ev_CntT, ev_ctT, ev_IxT, ev_ixT', ev_IxL, ev_ixL', ev_Cnt, ev_ctL, ev_Dic, ev_dg, ev_Sub, ev_Ext, ev_trI, ev_trT, ev_trL, ev_MmD, eq_self, ev_IsE, ev_CallH, ev_unN, ev_unR, ev_TryA, ev_Try, ev_exN, ev_exR, ev_exE, ev_tyN, ev_tyR, ev_tyE, ev_Raise, ev_noxN, ev_noxR, ev_Trg, ev_Cat, h, hc, hC]) ?_
  refine Nx.set (d := b.d) (by simp only [ev_C, ev_Var, ev_Bor, ev_Nl, ev_Bin, ev_Tup, ev_L, ev_Fn, ev_Call, ev_nil, ev_cons, ev_If, ev_And, ev_Or, ev_Not, ev_cAnd, ev_cOr, ev_cNot, ev_cB, ev_cTr, ev_toB, ev_IsN, ev_NotN, ev_isN_non, ev_isN_int, ev_isN_str, ev_isN_tup, ev_isN_bl, ev_MulL, ev_MulR, ev_DivC, ev_ModC, ev_Neg, ev_addI, ev_subI, ev_ltI, ev_leI, ev_gtI, ev_geI, ev_eqI, ev_neI, ev_eqS, ev_neS, ev_eqN, ev_neN, ev_eqNI, ev_neNI, ev_eqIN, ev_neIN, ev_eqB, ev_neB, ev_isB, ev_notB, ev_absI, ev_min2, ev_max2, ev_lenT, ev_lenL, ev_lenS, ev_tupL, ev_tupT, ev_intI, ev_intB, ev_ixT, ev_ixL, ev_ixS, at0, at1, at2, at3, atM1, ev_seq, ev_set, ev_own, ev_ret, ev_drop, ev_sIf, ev_for, ev_frz, ev_asg, ev_par2, ev_par3, ev_mVal, ev_mOwn, ev_app, ev_setv, ev_sets0, ev_sets1, ev_stv, ev_bnm, ev_btp, ev_bl0, ev_bl1, ev_R1, ev_R2, ev_iL, ev_iT, ev_itL, ev_itT, ev_forNil, ev_nolI, ev_nolN, ev_nolS, ev_nolB, ev_nolT, ev_nolL0, ev_nolL1, ev_cTrue, ev_wipe, Rz.bind_ok, Rz.bind_exc, Rz.bind_bad, Rz.ofO_some, Rz.ofO_none, onR_ok, onR_exc, onR_bad, onO_some, onO_none, List.getElem?_cons_zero, List.getElem?_cons_succ, ite_true, ite_false, if_true, if_false, reduceIte, Nat.reduceEqDiff, reduceCtorEq, Option.map_some, Option.bind_some, List.cons_append, List.nil_append, Option.map_none, Bool.false_eq_true, Bool.not_true, Bool.not_false, decide_true, decide_false, decide_eq_true_eq, beq_self_eq_true, ev_iSq, ev_itS1, ev_itS2, ev_itS3, ev_itS4, ev_iEn, ev_enS1, ev_enS2, ev_iZp, ev_zpS1, ev_zpS2, ev_Ch, ev_Sl, ev_O0, ev_O1, ev_iO, ev_slT, ev_slL, ev_Rg, ev_Rg3, ev_Ls, ev_lsT, ev_lsL, ev_Isi, ev_Isi2, ev_Rev, ev_revT, ev_Wk, ev_wkN, ev_wkT, ev_tupN, ev_CntT, ev_ctT, ev_IxT, ev_ixT', ev_IxL, ev_ixL', ev_Cnt, ev_ctL, ev_Dic, ev_dg, ev_Sub, ev_Ext, ev_trI, ev_trT, ev_trL, ev_MmD, eq_self, ev_IsE, ev_CallH, ev_unN, ev_unR, ev_TryA, ev_Try, ev_exN, ev_exR, ev_exE, ev_tyN, ev_tyR, ev_tyE, ev_Raise, ev_noxN, ev_noxR, ev_Trg, ev_Cat, hB]) ?_
  refine Nx.seq (e1 := _) (by simp only [ev_C, ev_Var, ev_Bor, ev_Nl, ev_Bin, ev_Tup, ev_L, ev_Fn, ev_Call, ev_nil, ev_cons, ev_If, ev_And, ev_Or, ev_Not, ev_cAnd, ev_cOr, ev_cNot, ev_cB, ev_cTr, ev_toB, ev_IsN, ev_NotN, ev_isN_non, ev_isN_int, ev_isN_str, ev_isN_tup, ev_isN_bl, ev_MulL, ev_MulR, ev_DivC, ev_ModC, ev_Neg, ev_addI, ev_subI, ev_ltI, ev_leI, ev_gtI, ev_geI, ev_eqI, ev_neI, ev_eqS, ev_neS, ev_eqN, ev_neN, ev_eqNI, ev_neNI, ev_eqIN, ev_neIN, ev_eqB, ev_neB, ev_isB, ev_notB, ev_absI, ev_min2, ev_max2, ev_lenT, ev_lenL, ev_lenS, ev_tupL, ev_tupT, ev_intI, ev_intB, ev_ixT, ev_ixL, ev_ixS, at0, at1, at2, at3, atM1, ev_seq, ev_set, ev_own, ev_ret, ev_drop, ev_sIf, ev_for, ev_frz, ev_asg, ev_par2, ev_par3, ev_mVal, ev_mOwn, ev_app, ev_setv, ev_sets0, ev_sets1, ev_stv, ev_bnm, ev_btp, ev_bl0, ev_bl1, ev_R1, ev_R2, ev_iL, ev_iT, ev_itL, ev_itT, ev_forNil, ev_nolI, ev_nolN, ev_nolS, ev_nolB, ev_nolT, ev_nolL0, ev_nolL1, ev_cTrue, ev_wipe, Rz.bind_ok, Rz.bind_exc, Rz.bind_bad, Rz.ofO_some, Rz.ofO_none, onR_ok, onR_exc, onR_bad, onO_some, onO_none, List.getElem?_cons_zero, List.getElem?_cons_succ, ite_true, ite_false, if_true, if_false, reduceIte, Nat.reduceEqDiff, reduceCtorEq, Option.map_some, Option.bind_some, List.cons_append, List.nil_append, Option.map_none, Bool.false_eq_true, Bool.not_true, Bool.not_false, decide_true, decide_false, decide_eq_true_eq, beq_self_eq_true, ev_iSq, ev_itS1, ev_itS2, ev_itS3, ev_itS4, ev_iEn, ev_enS1, ev_enS2, ev_iZp, ev_zpS1, ev_zpS2, ev_Ch, ev_Sl, ev_O0, ev_O1, ev_iO, ev_slT, ev_slL, ev_Rg, ev_Rg3, ev_Ls, ev_lsT, ev_lsL, ev_Isi, ev_Isi2, ev_Rev, ev_revT, ev_Wk, ev_wkN, ev_wkT, ev_tupN, ev_CntT, ev_ctT, ev_IxT, ev_ixT', ev_IxL, ev_ixL', ev_Cnt, ev_ctL, ev_Dic, ev_dg, ev_Sub, ev_Ext, ev_trI, ev_trT, ev_trL, ev_MmD, eq_self, ev_IsE, ev_CallH, ev_unN, ev_unR, ev_TryA, ev_Try, ev_exN, ev_exR, ev_exE, ev_tyN, ev_tyR, ev_tyE, ev_Raise, ev_noxN, ev_noxR, ev_Trg, ev_Cat, Book.d]; rfl) ?_
  refine Nx_own (x := [b.d, .lst [.int b.full, .int b.low, .tup (b.pw.map D.int), .int b.wait], .tup (cutL [.int b.full, .int b.low, .tup (b.pw.map D.int), .int b.wait] none (some 3)), .non]) (by simp only [ev_C, ev_Var, ev_Bor, ev_Nl, ev_Bin, ev_Tup, ev_L, ev_Fn, ev_Call, ev_nil, ev_cons, ev_If, ev_And, ev_Or, ev_Not, ev_cAnd, ev_cOr, ev_cNot, ev_cB, ev_cTr, ev_toB, ev_IsN, ev_NotN, ev_isN_non, ev_isN_int, ev_isN_str, ev_isN_tup, ev_isN_bl, ev_MulL, ev_MulR, ev_DivC, ev_ModC, ev_Neg, ev_addI, ev_subI, ev_ltI, ev_leI, ev_gtI, ev_geI, ev_eqI, ev_neI, ev_eqS, ev_neS, ev_eqN, ev_neN, ev_eqNI, ev_neNI, ev_eqIN, ev_neIN, ev_eqB, ev_neB, ev_isB, ev_notB, ev_absI, ev_min2, ev_max2, ev_lenT, ev_lenL, ev_lenS, ev_tupL, ev_tupT, ev_intI, ev_intB, ev_ixT, ev_ixL, ev_ixS, at0, at1, at2, at3, atM1, ev_seq, ev_set, ev_own, ev_ret, ev_drop, ev_sIf, ev_for, ev_frz, ev_asg, ev_par2, ev_par3, ev_mVal, ev_mOwn, ev_app, ev_setv, ev_sets0, ev_sets1, ev_stv, ev_bnm, ev_btp, ev_bl0, ev_bl1, ev_R1, ev_R2, ev_iL, ev_iT, ev_itL, ev_itT, ev_forNil, ev_nolI, ev_nolN, ev_nolS, ev_nolB, ev_nolT, ev_nolL0, ev_nolL1, ev_cTrue, ev_wipe, Rz.bind_ok, Rz.bind_exc, Rz.bind_bad, Rz.ofO_some, Rz.ofO_none, onR_ok, onR_exc, onR_bad, onO_some, onO_none, List.getElem?_cons_zero, List.getElem?_cons_succ, ite_true, ite_false, if_true, if_false, reduceIte, Nat.reduceEqDiff, reduceCtorEq, Option.map_some, Option.bind_some, List.cons_append, List.nil_append, Option.map_none, Bool.false_eq_true, Bool.not_true, Bool.not_false, decide_true, decide_false, decide_eq_true_eq, beq_self_eq_true, ev_iSq, ev_itS1, ev_itS2, ev_itS3, ev_itS4, ev_iEn, ev_enS1, ev_enS2, ev_iZp, ev_zpS1, ev_zpS2, ev_Ch, ev_Sl, ev_O0, ev_O1, ev_iO, ev_slT, ev_slL, ev_Rg, ev_Rg3, ev_Ls, ev_lsT, ev_lsL, ev_Isi, ev_Isi2, ev_Rev, ev_revT, ev_Wk, ev_wkN, ev_wkT, ev_tupN, ev_CntT, ev_ctT, ev_IxT, ev_ixT', ev_IxL, ev_ixL', ev_Cnt, ev_ctL, ev_Dic, ev_dg, ev_Sub, ev_Ext, ev_trI, ev_trT, ev_trL, ev_MmD, eq_self, ev_IsE, ev_CallH, ev_unN, ev_unR, ev_TryA, ev_Try, ev_exN, ev_exR, ev_exE, ev_tyN, ev_tyR, ev_tyE, ev_Raise, ev_noxN, ev_noxR, ev_Trg, ev_Cat, Book.d]) ?_
  refine Nx_frzO (ds := _) (by simp only [ev_C, ev_Var, ev_Bor, ev_Nl, ev_Bin, ev_Tup, ev_L, ev_Fn, ev_Call, ev_nil, ev_cons, ev_If, ev_And, ev_Or, ev_Not, ev_cAnd, ev_cOr, ev_cNot, ev_cB, ev_cTr, ev_toB, ev_IsN, ev_NotN, ev_isN_non, ev_isN_int, ev_isN_str, ev_isN_tup, ev_isN_bl, ev_MulL, ev_MulR, ev_DivC, ev_ModC, ev_Neg, ev_addI, ev_subI, ev_ltI, ev_leI, ev_gtI, ev_geI, ev_eqI, ev_neI, ev_eqS, ev_neS, ev_eqN, ev_neN, ev_eqNI, ev_neNI, ev_eqIN, ev_neIN, ev_eqB, ev_neB, ev_isB, ev_notB, ev_absI, ev_min2, ev_max2, ev_lenT, ev_lenL, ev_lenS, ev_tupL, ev_tupT, ev_intI, ev_intB, ev_ixT, ev_ixL, ev_ixS, at0, at1, at2, at3, atM1, ev_seq, ev_set, ev_own, ev_ret, ev_drop, ev_sIf, ev_for, ev_frz, ev_asg, ev_par2, ev_par3, ev_mVal, ev_mOwn, ev_app, ev_setv, ev_sets0, ev_sets1, ev_stv, ev_bnm, ev_btp, ev_bl0, ev_bl1, ev_R1, ev_R2, ev_iL, ev_iT, ev_itL, ev_itT, ev_forNil, ev_nolI, ev_nolN, ev_nolS, ev_nolB, ev_nolT, ev_nolL0, ev_nolL1, ev_cTrue, ev_wipe, Rz.bind_ok, Rz.bind_exc, Rz.bind_bad, Rz.ofO_some, Rz.ofO_none, onR_ok, onR_exc, onR_bad, onO_some, onO_none, List.getElem?_cons_zero, List.getElem?_cons_succ, ite_true, ite_false, if_true, if_false, reduceIte, Nat.reduceEqDiff, reduceCtorEq, Option.map_some, Option.bind_some, List.cons_append, List.nil_append, Option.map_none, Bool.false_eq_true, Bool.not_true, Bool.not_false, decide_true, decide_false, decide_eq_true_eq, beq_self_eq_true, ev_iSq, ev_itS1, ev_itS2, ev_itS3, ev_itS4, ev_iEn, ev_enS1, ev_enS2, ev_iZp, ev_zpS1, ev_zpS2, ev_Ch, ev_Sl, ev_O0, ev_O1, ev_iO, ev_slT, ev_slL, ev_Rg, ev_Rg3, ev_Ls, ev_lsT, ev_lsL, ev_Isi, ev_Isi2, ev_Rev, ev_revT, ev_Wk, ev_wkN, ev_wkT, ev_tupN, ev_CntT, ev_ctT, ev_IxT, ev_ixT', ev_IxL, ev_ixL', ev_Cnt, ev_ctL, ev_Dic, ev_dg, ev_Sub, ev_Ext, ev_trI, ev_trT, ev_trL, ev_MmD, eq_self, ev_IsE, ev_CallH, ev_unN, ev_unR, ev_TryA, ev_Try, ev_exN, ev_exR, ev_exE, ev_tyN, ev_tyR, ev_tyE, ev_Raise, ev_noxN, ev_noxR, ev_Trg, ev_Cat]; rfl) ?_
  refine Nx_own (x := _) (by simp only [ev_C, ev_Var, ev_Bor, ev_Nl, ev_Bin, ev_Tup, ev_L, ev_Fn, ev_Call, ev_nil, ev_cons, ev_If, ev_And, ev_Or, ev_Not, ev_cAnd, ev_cOr, ev_cNot, ev_cB, ev_cTr, ev_toB, ev_IsN, ev_NotN, ev_isN_non, ev_isN_int, ev_isN_str, ev_isN_tup, ev_isN_bl, ev_MulL, ev_MulR, ev_DivC, ev_ModC, ev_Neg, ev_addI, ev_subI, ev_ltI, ev_leI, ev_gtI, ev_geI, ev_eqI, ev_neI, ev_eqS, ev_neS, ev_eqN, ev_neN, ev_eqNI, ev_neNI, ev_eqIN, ev_neIN, ev_eqB, ev_neB, ev_isB, ev_notB, ev_absI, ev_min2, ev_max2, ev_lenT, ev_lenL, ev_lenS, ev_tupL, ev_tupT, ev_intI, ev_intB, ev_ixT, ev_ixL, ev_ixS, at0, at1, at2, at3, atM1, ev_seq, ev_set, ev_own, ev_ret, ev_drop, ev_sIf, ev_for, ev_frz, ev_asg, ev_par2, ev_par3, ev_mVal, ev_mOwn, ev_app, ev_setv, ev_sets0, ev_sets1, ev_stv, ev_bnm, ev_btp, ev_bl0, ev_bl1, ev_R1, ev_R2, ev_iL, ev_iT, ev_itL, ev_itT, ev_forNil, ev_nolI, ev_nolN, ev_nolS, ev_nolB, ev_nolT, ev_nolL0, ev_nolL1, ev_cTrue, ev_wipe, Rz.bind_ok, Rz.bind_exc, Rz.bind_bad, Rz.ofO_some, Rz.ofO_none, onR_ok, onR_exc, onR_bad, onO_some, onO_none, List.getElem?_cons_zero, List.getElem?_cons_succ, ite_true, ite_false, if_true, if_false, reduceIte, Nat.reduceEqDiff, reduceCtorEq, Option.map_some, Option.bind_some, List.cons_append, List.nil_append, Option.map_none, Bool.false_eq_true, Bool.not_true, Bool.not_false, decide_true, decide_false, decide_eq_true_eq, beq_self_eq_true, ev_iSq, ev_itS1, ev_itS2, ev_itS3, ev_itS4, ev_iEn, ev_enS1, ev_enS2, ev_iZp, ev_zpS1, ev_zpS2, ev_Ch, ev_Sl, ev_O0, ev_O1, ev_iO, ev_slT, ev_slL, ev_Rg, ev_Rg3, ev_Ls, ev_lsT, ev_lsL, ev_Isi, ev_Isi2, ev_Rev, ev_revT, ev_Wk, ev_wkN, ev_wkT, ev_tupN, ev_CntT, ev_ctT, ev_IxT, ev_ixT', ev_IxL, ev_ixL', ev_Cnt, ev_ctL, ev_Dic, ev_dg, ev_Sub, ev_Ext, ev_trI, ev_trT, ev_trL, ev_MmD, eq_self, ev_IsE, ev_CallH, ev_unN, ev_unR, ev_TryA, ev_Try, ev_exN, ev_exR, ev_exE, ev_tyN, ev_tyR, ev_tyE, ev_Raise, ev_noxN, ev_noxR, ev_Trg, ev_Cat]; exact lcat_ok (by simp)) ?_
  refine Nx_frzO (ds := _) (by simp only [ev_C, ev_Var, ev_Bor, ev_Nl, ev_Bin, ev_Tup, ev_L, ev_Fn, ev_Call, ev_nil, ev_cons, ev_If, ev_And, ev_Or, ev_Not, ev_cAnd, ev_cOr, ev_cNot, ev_cB, ev_cTr, ev_toB, ev_IsN, ev_NotN, ev_isN_non, ev_isN_int, ev_isN_str, ev_isN_tup, ev_isN_bl, ev_MulL, ev_MulR, ev_DivC, ev_ModC, ev_Neg, ev_addI, ev_subI, ev_ltI, ev_leI, ev_gtI, ev_geI, ev_eqI, ev_neI, ev_eqS, ev_neS, ev_eqN, ev_neN, ev_eqNI, ev_neNI, ev_eqIN, ev_neIN, ev_eqB, ev_neB, ev_isB, ev_notB, ev_absI, ev_min2, ev_max2, ev_lenT, ev_lenL, ev_lenS, ev_tupL, ev_tupT, ev_intI, ev_intB, ev_ixT, ev_ixL, ev_ixS, at0, at1, at2, at3, atM1, ev_seq, ev_set, ev_own, ev_ret, ev_drop, ev_sIf, ev_for, ev_frz, ev_asg, ev_par2, ev_par3, ev_mVal, ev_mOwn, ev_app, ev_setv, ev_sets0, ev_sets1, ev_stv, ev_bnm, ev_btp, ev_bl0, ev_bl1, ev_R1, ev_R2, ev_iL, ev_iT, ev_itL, ev_itT, ev_forNil, ev_nolI, ev_nolN, ev_nolS, ev_nolB, ev_nolT, ev_nolL0, ev_nolL1, ev_cTrue, ev_wipe, Rz.bind_ok, Rz.bind_exc, Rz.bind_bad, Rz.ofO_some, Rz.ofO_none, onR_ok, onR_exc, onR_bad, onO_some, onO_none, List.getElem?_cons_zero, List.getElem?_cons_succ, ite_true, ite_false, if_true, if_false, reduceIte, Nat.reduceEqDiff, reduceCtorEq, Option.map_some, Option.bind_some, List.cons_append, List.nil_append, Option.map_none, Bool.false_eq_true, Bool.not_true, Bool.not_false, decide_true, decide_false, decide_eq_true_eq, beq_self_eq_true, ev_iSq, ev_itS1, ev_itS2, ev_itS3, ev_itS4, ev_iEn, ev_enS1, ev_enS2, ev_iZp, ev_zpS1, ev_zpS2, ev_Ch, ev_Sl, ev_O0, ev_O1, ev_iO, ev_slT, ev_slL, ev_Rg, ev_Rg3, ev_Ls, ev_lsT, ev_lsL, ev_Isi, ev_Isi2, ev_Rev, ev_revT, ev_Wk, ev_wkN, ev_wkT, ev_tupN, ev_CntT, ev_ctT, ev_IxT, ev_ixT', ev_IxL, ev_ixL', ev_Cnt, ev_ctL, ev_Dic, ev_dg, ev_Sub, ev_Ext, ev_trI, ev_trT, ev_trL, ev_MmD, eq_self, ev_IsE, ev_CallH, ev_unN, ev_unR, ev_TryA, ev_Try, ev_exN, ev_exR, ev_exE, ev_tyN, ev_tyR, ev_tyE, ev_Raise, ev_noxN, ev_noxR, ev_Trg, ev_Cat]; rfl) ?_
  refine Nx_own (x := _) (by simp only [ev_C, ev_Var, ev_Bor, ev_Nl, ev_Bin, ev_Tup, ev_L, ev_Fn, ev_Call, ev_nil, ev_cons, ev_If, ev_And, ev_Or, ev_Not, ev_cAnd, ev_cOr, ev_cNot, ev_cB, ev_cTr, ev_toB, ev_IsN, ev_NotN, ev_isN_non, ev_isN_int, ev_isN_str, ev_isN_tup, ev_isN_bl, ev_MulL, ev_MulR, ev_DivC, ev_ModC, ev_Neg, ev_addI, ev_subI, ev_ltI, ev_leI, ev_gtI, ev_geI, ev_eqI, ev_neI, ev_eqS, ev_neS, ev_eqN, ev_neN, ev_eqNI, ev_neNI, ev_eqIN, ev_neIN, ev_eqB, ev_neB, ev_isB, ev_notB, ev_absI, ev_min2, ev_max2, ev_lenT, ev_lenL, ev_lenS, ev_tupL, ev_tupT, ev_intI, ev_intB, ev_ixT, ev_ixL, ev_ixS, at0, at1, at2, at3, atM1, ev_seq, ev_set, ev_own, ev_ret, ev_drop, ev_sIf, ev_for, ev_frz, ev_asg, ev_par2, ev_par3, ev_mVal, ev_mOwn, ev_app, ev_setv, ev_sets0, ev_sets1, ev_stv, ev_bnm, ev_btp, ev_bl0, ev_bl1, ev_R1, ev_R2, ev_iL, ev_iT, ev_itL, ev_itT, ev_forNil, ev_nolI, ev_nolN, ev_nolS, ev_nolB, ev_nolT, ev_nolL0, ev_nolL1, ev_cTrue, ev_wipe, Rz.bind_ok, Rz.bind_exc, Rz.bind_bad, Rz.ofO_some, Rz.ofO_none, onR_ok, onR_exc, onR_bad, onO_some, onO_none, List.getElem?_cons_zero, List.getElem?_cons_succ, ite_true, ite_false, if_true, if_false, reduceIte, Nat.reduceEqDiff, reduceCtorEq, Option.map_some, Option.bind_some, List.cons_append, List.nil_append, Option.map_none, Bool.false_eq_true, Bool.not_true, Bool.not_false, decide_true, decide_false, decide_eq_true_eq, beq_self_eq_true, ev_iSq, ev_itS1, ev_itS2, ev_itS3, ev_itS4, ev_iEn, ev_enS1, ev_enS2, ev_iZp, ev_zpS1, ev_zpS2, ev_Ch, ev_Sl, ev_O0, ev_O1, ev_iO, ev_slT, ev_slL, ev_Rg, ev_Rg3, ev_Ls, ev_lsT, ev_lsL, ev_Isi, ev_Isi2, ev_Rev, ev_revT, ev_Wk, ev_wkN, ev_wkT, ev_tupN, ev_CntT, ev_ctT, ev_IxT, ev_ixT', ev_IxL, ev_ixL', ev_Cnt, ev_ctL, ev_Dic, ev_dg, ev_Sub, ev_Ext, ev_trI, ev_trT, ev_trL, ev_MmD, eq_self, ev_IsE, ev_CallH, ev_unN, ev_unR, ev_TryA, ev_Try, ev_exN, ev_exR, ev_exE, ev_tyN, ev_tyR, ev_tyE, ev_Raise, ev_noxN, ev_noxR, ev_Trg, ev_Cat]; exact lcat_ok (by simp)) ?_
  refine Nx_frzO (ds := _) (by simp only [ev_C, ev_Var, ev_Bor, ev_Nl, ev_Bin, ev_Tup, ev_L, ev_Fn, ev_Call, ev_nil, ev_cons, ev_If, ev_And, ev_Or, ev_Not, ev_cAnd, ev_cOr, ev_cNot, ev_cB, ev_cTr, ev_toB, ev_IsN, ev_NotN, ev_isN_non, ev_isN_int, ev_isN_str, ev_isN_tup, ev_isN_bl, ev_MulL, ev_MulR, ev_DivC, ev_ModC, ev_Neg, ev_addI, ev_subI, ev_ltI, ev_leI, ev_gtI, ev_geI, ev_eqI, ev_neI, ev_eqS, ev_neS, ev_eqN, ev_neN, ev_eqNI, ev_neNI, ev_eqIN, ev_neIN, ev_eqB, ev_neB, ev_isB, ev_notB, ev_absI, ev_min2, ev_max2, ev_lenT, ev_lenL, ev_lenS, ev_tupL, ev_tupT, ev_intI, ev_intB, ev_ixT, ev_ixL, ev_ixS, at0, at1, at2, at3, atM1, ev_seq, ev_set, ev_own, ev_ret, ev_drop, ev_sIf, ev_for, ev_frz, ev_asg, ev_par2, ev_par3, ev_mVal, ev_mOwn, ev_app, ev_setv, ev_sets0, ev_sets1, ev_stv, ev_bnm, ev_btp, ev_bl0, ev_bl1, ev_R1, ev_R2, ev_iL, ev_iT, ev_itL, ev_itT, ev_forNil, ev_nolI, ev_nolN, ev_nolS, ev_nolB, ev_nolT, ev_nolL0, ev_nolL1, ev_cTrue, ev_wipe, Rz.bind_ok, Rz.bind_exc, Rz.bind_bad, Rz.ofO_some, Rz.ofO_none, onR_ok, onR_exc, onR_bad, onO_some, onO_none, List.getElem?_cons_zero, List.getElem?_cons_succ, ite_true, ite_false, if_true, if_false, reduceIte, Nat.reduceEqDiff, reduceCtorEq, Option.map_some, Option.bind_some, List.cons_append, List.nil_append, Option.map_none, Bool.false_eq_true, Bool.not_true, Bool.not_false, decide_true, decide_false, decide_eq_true_eq, beq_self_eq_true, ev_iSq, ev_itS1, ev_itS2, ev_itS3, ev_itS4, ev_iEn, ev_enS1, ev_enS2, ev_iZp, ev_zpS1, ev_zpS2, ev_Ch, ev_Sl, ev_O0, ev_O1, ev_iO, ev_slT, ev_slL, ev_Rg, ev_Rg3, ev_Ls, ev_lsT, ev_lsL, ev_Isi, ev_Isi2, ev_Rev, ev_revT, ev_Wk, ev_wkN, ev_wkT, ev_tupN, ev_CntT, ev_ctT, ev_IxT, ev_ixT', ev_IxL, ev_ixL', ev_Cnt, ev_ctL, ev_Dic, ev_dg, ev_Sub, ev_Ext, ev_trI, ev_trT, ev_trL, ev_MmD, eq_self, ev_IsE, ev_CallH, ev_unN, ev_unR, ev_TryA, ev_Try, ev_exN, ev_exR, ev_exE, ev_tyN, ev_tyR, ev_tyE, ev_Raise, ev_noxN, ev_noxR, ev_Trg, ev_Cat]; rfl) ?_
  refine Nx_own (x := _) (by simp only [ev_C, ev_Var, ev_Bor, ev_Nl, ev_Bin, ev_Tup, ev_L, ev_Fn, ev_Call, ev_nil, ev_cons, ev_If, ev_And, ev_Or, ev_Not, ev_cAnd, ev_cOr, ev_cNot, ev_cB, ev_cTr, ev_toB, ev_IsN, ev_NotN, ev_isN_non, ev_isN_int, ev_isN_str, ev_isN_tup, ev_isN_bl, ev_MulL, ev_MulR, ev_DivC, ev_ModC, ev_Neg, ev_addI, ev_subI, ev_ltI, ev_leI, ev_gtI, ev_geI, ev_eqI, ev_neI, ev_eqS, ev_neS, ev_eqN, ev_neN, ev_eqNI, ev_neNI, ev_eqIN, ev_neIN, ev_eqB, ev_neB, ev_isB, ev_notB, ev_absI, ev_min2, ev_max2, ev_lenT, ev_lenL, ev_lenS, ev_tupL, ev_tupT, ev_intI, ev_intB, ev_ixT, ev_ixL, ev_ixS, at0, at1, at2, at3, atM1, ev_seq, ev_set, ev_own, ev_ret, ev_drop, ev_sIf, ev_for, ev_frz, ev_asg, ev_par2, ev_par3, ev_mVal, ev_mOwn, ev_app, ev_setv, ev_sets0, ev_sets1, ev_stv, ev_bnm, ev_btp, ev_bl0, ev_bl1, ev_R1, ev_R2, ev_iL, ev_iT, ev_itL, ev_itT, ev_forNil, ev_nolI, ev_nolN, ev_nolS, ev_nolB, ev_nolT, ev_nolL0, ev_nolL1, ev_cTrue, ev_wipe, Rz.bind_ok, Rz.bind_exc, Rz.bind_bad, Rz.ofO_some, Rz.ofO_none, onR_ok, onR_exc, onR_bad, onO_some, onO_none, List.getElem?_cons_zero, List.getElem?_cons_succ, ite_true, ite_false, if_true, if_false, reduceIte, Nat.reduceEqDiff, reduceCtorEq, Option.map_some, Option.bind_some, List.cons_append, List.nil_append, Option.map_none, Bool.false_eq_true, Bool.not_true, Bool.not_false, decide_true, decide_false, decide_eq_true_eq, beq_self_eq_true, ev_iSq, ev_itS1, ev_itS2, ev_itS3, ev_itS4, ev_iEn, ev_enS1, ev_enS2, ev_iZp, ev_zpS1, ev_zpS2, ev_Ch, ev_Sl, ev_O0, ev_O1, ev_iO, ev_slT, ev_slL, ev_Rg, ev_Rg3, ev_Ls, ev_lsT, ev_lsL, ev_Isi, ev_Isi2, ev_Rev, ev_revT, ev_Wk, ev_wkN, ev_wkT, ev_tupN, ev_CntT, ev_ctT, ev_IxT, ev_ixT', ev_IxL, ev_ixL', ev_Cnt, ev_ctL, ev_Dic, ev_dg, ev_Sub, ev_Ext, ev_trI, ev_trT, ev_trL, ev_MmD, eq_self, ev_IsE, ev_CallH, ev_unN, ev_unR, ev_TryA, ev_Try, ev_exN, ev_exR, ev_exE, ev_tyN, ev_tyR, ev_tyE, ev_Raise, ev_noxN, ev_noxR, ev_Trg, ev_Cat]; exact lcat_ok (by simp)) ?_
  refine Nx_frzO (ds := _) (by simp only [ev_C, ev_Var, ev_Bor, ev_Nl, ev_Bin, ev_Tup, ev_L, ev_Fn, ev_Call, ev_nil, ev_cons, ev_If, ev_And, ev_Or, ev_Not, ev_cAnd, ev_cOr, ev_cNot, ev_cB, ev_cTr, ev_toB, ev_IsN, ev_NotN, ev_isN_non, ev_isN_int, ev_isN_str, ev_isN_tup, ev_isN_bl, ev_MulL, ev_MulR, ev_DivC, ev_ModC, ev_Neg, ev_addI, ev_subI, ev_ltI, ev_leI, ev_gtI, ev_geI, ev_eqI, ev_neI, ev_eqS, ev_neS, ev_eqN, ev_neN, ev_eqNI, ev_neNI, ev_eqIN, ev_neIN, ev_eqB, ev_neB, ev_isB, ev_notB, ev_absI, ev_min2, ev_max2, ev_lenT, ev_lenL, ev_lenS, ev_tupL, ev_tupT, ev_intI, ev_intB, ev_ixT, ev_ixL, ev_ixS, at0, at1, at2, at3, atM1, ev_seq, ev_set, ev_own, ev_ret, ev_drop, ev_sIf, ev_for, ev_frz, ev_asg, ev_par2, ev_par3, ev_mVal, ev_mOwn, ev_app, ev_setv, ev_sets0, ev_sets1, ev_stv, ev_bnm, ev_btp, ev_bl0, ev_bl1, ev_R1, ev_R2, ev_iL, ev_iT, ev_itL, ev_itT, ev_forNil, ev_nolI, ev_nolN, ev_nolS, ev_nolB, ev_nolT, ev_nolL0, ev_nolL1, ev_cTrue, ev_wipe, Rz.bind_ok, Rz.bind_exc, Rz.bind_bad, Rz.ofO_some, Rz.ofO_none, onR_ok, onR_exc, onR_bad, onO_some, onO_none, List.getElem?_cons_zero, List.getElem?_cons_succ, ite_true, ite_false, if_true, if_false, reduceIte, Nat.reduceEqDiff, reduceCtorEq, Option.map_some, Option.bind_some, List.cons_append, List.nil_append, Option.map_none, Bool.false_eq_true, Bool.not_true, Bool.not_false, decide_true, decide_false, decide_eq_true_eq, beq_self_eq_true, ev_iSq, ev_itS1, ev_itS2, ev_itS3, ev_itS4, ev_iEn, ev_enS1, ev_enS2, ev_iZp, ev_zpS1, ev_zpS2, ev_Ch, ev_Sl, ev_O0, ev_O1, ev_iO, ev_slT, ev_slL, ev_Rg, ev_Rg3, ev_Ls, ev_lsT, ev_lsL, ev_Isi, ev_Isi2, ev_Rev, ev_revT, ev_Wk, ev_wkN, ev_wkT, ev_tupN, ev_CntT, ev_ctT, ev_IxT, ev_ixT', ev_IxL, ev_ixL', ev_Cnt, ev_ctL, ev_Dic, ev_dg, ev_Sub, ev_Ext, ev_trI, ev_trT, ev_trL, ev_MmD, eq_self, ev_IsE, ev_CallH, ev_unN, ev_unR, ev_TryA, ev_Try, ev_exN, ev_exR, ev_exE, ev_tyN, ev_tyR, ev_tyE, ev_Raise, ev_noxN, ev_noxR, ev_Trg, ev_Cat]; rfl) ?_
  refine Nx_own (x := _) (by simp only [ev_C, ev_Var, ev_Bor, ev_Nl, ev_Bin, ev_Tup, ev_L, ev_Fn, ev_Call, ev_nil, ev_cons, ev_If, ev_And, ev_Or, ev_Not, ev_cAnd, ev_cOr, ev_cNot, ev_cB, ev_cTr, ev_toB, ev_IsN, ev_NotN, ev_isN_non, ev_isN_int, ev_isN_str, ev_isN_tup, ev_isN_bl, ev_MulL, ev_MulR, ev_DivC, ev_ModC, ev_Neg, ev_addI, ev_subI, ev_ltI, ev_leI, ev_gtI, ev_geI, ev_eqI, ev_neI, ev_eqS, ev_neS, ev_eqN, ev_neN, ev_eqNI, ev_neNI, ev_eqIN, ev_neIN, ev_eqB, ev_neB, ev_isB, ev_notB, ev_absI, ev_min2, ev_max2, ev_lenT, ev_lenL, ev_lenS, ev_tupL, ev_tupT, ev_intI, ev_intB, ev_ixT, ev_ixL, ev_ixS, at0, at1, at2, at3, atM1, ev_seq, ev_set, ev_own, ev_ret, ev_drop, ev_sIf, ev_for, ev_frz, ev_asg, ev_par2, ev_par3, ev_mVal, ev_mOwn, ev_app, ev_setv, ev_sets0, ev_sets1, ev_stv, ev_bnm, ev_btp, ev_bl0, ev_bl1, ev_R1, ev_R2, ev_iL, ev_iT, ev_itL, ev_itT, ev_forNil, ev_nolI, ev_nolN, ev_nolS, ev_nolB, ev_nolT, ev_nolL0, ev_nolL1, ev_cTrue, ev_wipe, Rz.bind_ok, Rz.bind_exc, Rz.bind_bad, Rz.ofO_some, Rz.ofO_none, onR_ok, onR_exc, onR_bad, onO_some, onO_none, List.getElem?_cons_zero, List.getElem?_cons_succ, ite_true, ite_false, if_true, if_false, reduceIte, Nat.reduceEqDiff, reduceCtorEq, Option.map_some, Option.bind_some, List.cons_append, List.nil_append, Option.map_none, Bool.false_eq_true, Bool.not_true, Bool.not_false, decide_true, decide_false, decide_eq_true_eq, beq_self_eq_true, ev_iSq, ev_itS1, ev_itS2, ev_itS3, ev_itS4, ev_iEn, ev_enS1, ev_enS2, ev_iZp, ev_zpS1, ev_zpS2, ev_Ch, ev_Sl, ev_O0, ev_O1, ev_iO, ev_slT, ev_slL, ev_Rg, ev_Rg3, ev_Ls, ev_lsT, ev_lsL, ev_Isi, ev_Isi2, ev_Rev, ev_revT, ev_Wk, ev_wkN, ev_wkT, ev_tupN, ev_CntT, ev_ctT, ev_IxT, ev_ixT', ev_IxL, ev_ixL', ev_Cnt, ev_ctL, ev_Dic, ev_dg, ev_Sub, ev_Ext, ev_trI, ev_trT, ev_trL, ev_MmD, eq_self, ev_IsE, ev_CallH, ev_unN, ev_unR, ev_TryA, ev_Try, ev_exN, ev_exR, ev_exE, ev_tyN, ev_tyR, ev_tyE, ev_Raise, ev_noxN, ev_noxR, ev_Trg, ev_Cat]; exact lcat_ok (by simp)) ?_
  refine Nx_frzO (ds := _) (by simp only [ev_C, ev_Var, ev_Bor, ev_Nl, ev_Bin, ev_Tup, ev_L, ev_Fn, ev_Call, ev_nil, ev_cons, ev_If, ev_And, ev_Or, ev_Not, ev_cAnd, ev_cOr, ev_cNot, ev_cB, ev_cTr, ev_toB, ev_IsN, ev_NotN, ev_isN_non, ev_isN_int, ev_isN_str, ev_isN_tup, ev_isN_bl, ev_MulL, ev_MulR, ev_DivC, ev_ModC, ev_Neg, ev_addI, ev_subI, ev_ltI, ev_leI, ev_gtI, ev_geI, ev_eqI, ev_neI, ev_eqS, ev_neS, ev_eqN, ev_neN, ev_eqNI, ev_neNI, ev_eqIN, ev_neIN, ev_eqB, ev_neB, ev_isB, ev_notB, ev_absI, ev_min2, ev_max2, ev_lenT, ev_lenL, ev_lenS, ev_tupL, ev_tupT, ev_intI, ev_intB, ev_ixT, ev_ixL, ev_ixS, at0, at1, at2, at3, atM1, ev_seq, ev_set, ev_own, ev_ret, ev_drop, ev_sIf, ev_for, ev_frz, ev_asg, ev_par2, ev_par3, ev_mVal, ev_mOwn, ev_app, ev_setv, ev_sets0, ev_sets1, ev_stv, ev_bnm, ev_btp, ev_bl0, ev_bl1, ev_R1, ev_R2, ev_iL, ev_iT, ev_itL, ev_itT, ev_forNil, ev_nolI, ev_nolN, ev_nolS, ev_nolB, ev_nolT, ev_nolL0, ev_nolL1, ev_cTrue, ev_wipe, Rz.bind_ok, Rz.bind_exc, Rz.bind_bad, Rz.ofO_some, Rz.ofO_none, onR_ok, onR_exc, onR_bad, onO_some, onO_none, List.getElem?_cons_zero, List.getElem?_cons_succ, ite_true, ite_false, if_true, if_false, reduceIte, Nat.reduceEqDiff, reduceCtorEq, Option.map_some, Option.bind_some, List.cons_append, List.nil_append, Option.map_none, Bool.false_eq_true, Bool.not_true, Bool.not_false, decide_true, decide_false, decide_eq_true_eq, beq_self_eq_true, ev_iSq, ev_itS1, ev_itS2, ev_itS3, ev_itS4, ev_iEn, ev_enS1, ev_enS2, ev_iZp, ev_zpS1, ev_zpS2, ev_Ch, ev_Sl, ev_O0, ev_O1, ev_iO, ev_slT, ev_slL, ev_Rg, ev_Rg3, ev_Ls, ev_lsT, ev_lsL, ev_Isi, ev_Isi2, ev_Rev, ev_revT, ev_Wk, ev_wkN, ev_wkT, ev_tupN, ev_CntT, ev_ctT, ev_IxT, ev_ixT', ev_IxL, ev_ixL', ev_Cnt, ev_ctL, ev_Dic, ev_dg, ev_Sub, ev_Ext, ev_trI, ev_trT, ev_trL, ev_MmD, eq_self, ev_IsE, ev_CallH, ev_unN, ev_unR, ev_TryA, ev_Try, ev_exN, ev_exR, ev_exE, ev_tyN, ev_tyR, ev_tyE, ev_Raise, ev_noxN, ev_noxR, ev_Trg, ev_Cat]; rfl) ?_
  refine Nx_own (x := _) (by simp only [ev_C, ev_Var, ev_Bor, ev_Nl, ev_Bin, ev_Tup, ev_L, ev_Fn, ev_Call, ev_nil, ev_cons, ev_If, ev_And, ev_Or, ev_Not, ev_cAnd, ev_cOr, ev_cNot, ev_cB, ev_cTr, ev_toB, ev_IsN, ev_NotN, ev_isN_non, ev_isN_int, ev_isN_str, ev_isN_tup, ev_isN_bl, ev_MulL, ev_MulR, ev_DivC, ev_ModC, ev_Neg, ev_addI, ev_subI, ev_ltI, ev_leI, ev_gtI, ev_geI, ev_eqI, ev_neI, ev_eqS, ev_neS, ev_eqN, ev_neN, ev_eqNI, ev_neNI, ev_eqIN, ev_neIN, ev_eqB, ev_neB, ev_isB, ev_notB, ev_absI, ev_min2, ev_max2, ev_lenT, ev_lenL, ev_lenS, ev_tupL, ev_tupT, ev_intI, ev_intB, ev_ixT, ev_ixL, ev_ixS, at0, at1, at2, at3, atM1, ev_seq, ev_set, ev_own, ev_ret, ev_drop, ev_sIf, ev_for, ev_frz, ev_asg, ev_par2, ev_par3, ev_mVal, ev_mOwn, ev_app, ev_setv, ev_sets0, ev_sets1, ev_stv, ev_bnm, ev_btp, ev_bl0, ev_bl1, ev_R1, ev_R2, ev_iL, ev_iT, ev_itL, ev_itT, ev_forNil, ev_nolI, ev_nolN, ev_nolS, ev_nolB, ev_nolT, ev_nolL0, ev_nolL1, ev_cTrue, ev_wipe, Rz.bind_ok, Rz.bind_exc, Rz.bind_bad, Rz.ofO_some, Rz.ofO_none, onR_ok, onR_exc, onR_bad, onO_some, onO_none, List.getElem?_cons_zero, List.getElem?_cons_succ, ite_true, ite_false, if_true, if_false, reduceIte, Nat.reduceEqDiff, reduceCtorEq, Option.map_some, Option.bind_some, List.cons_append, List.nil_append, Option.map_none, Bool.false_eq_true, Bool.not_true, Bool.not_false, decide_true, decide_false, decide_eq_true_eq, beq_self_eq_true, ev_iSq, ev_itS1, ev_itS2, ev_itS3, ev_itS4, ev_iEn, ev_enS1, ev_enS2, ev_iZp, ev_zpS1, ev_zpS2, ev_Ch, ev_Sl, ev_O0, ev_O1, ev_iO, ev_slT, ev_slL, ev_Rg, ev_Rg3, ev_Ls, ev_lsT, ev_lsL, ev_Isi, ev_Isi2, ev_Rev, ev_revT, ev_Wk, ev_wkN, ev_wkT, ev_tupN, ev_CntT, ev_ctT, ev_IxT, ev_ixT', ev_IxL, ev_ixL', ev_Cnt, ev_ctL, ev_Dic, ev_dg, ev_Sub, ev_Ext, ev_trI, ev_trT, ev_trL, ev_MmD, eq_self, ev_IsE, ev_CallH, ev_unN, ev_unR, ev_TryA, ev_Try, ev_exN, ev_exR, ev_exE, ev_tyN, ev_tyR, ev_tyE, ev_Raise, ev_noxN, ev_noxR, ev_Trg, ev_Cat]; exact lcat_ok (by simp)) ?_
  refine Nx.set (d := st) (by simp only [ev_C, ev_Var, ev_Bor, ev_Nl, ev_Bin, ev_Tup, ev_L, ev_Fn, ev_Call, ev_nil, ev_cons, ev_If, ev_And, ev_Or, ev_Not, ev_cAnd, ev_cOr, ev_cNot, ev_cB, ev_cTr, ev_toB, ev_IsN, ev_NotN, ev_isN_non, ev_isN_int, ev_isN_str, ev_isN_tup, ev_isN_bl, ev_MulL, ev_MulR, ev_DivC, ev_ModC, ev_Neg, ev_addI, ev_subI, ev_ltI, ev_leI, ev_gtI, ev_geI, ev_eqI, ev_neI, ev_eqS, ev_neS, ev_eqN, ev_neN, ev_eqNI, ev_neNI, ev_eqIN, ev_neIN, ev_eqB, ev_neB, ev_isB, ev_notB, ev_absI, ev_min2, ev_max2, ev_lenT, ev_lenL, ev_lenS, ev_tupL, ev_tupT, ev_intI, ev_intB, ev_ixT, ev_ixL, ev_ixS, at0, at1, at2, at3, atM1, ev_seq, ev_set, ev_own, ev_ret, ev_drop, ev_sIf, ev_for, ev_frz, ev_asg, ev_par2, ev_par3, ev_mVal, ev_mOwn, ev_app, ev_setv, ev_sets0, ev_sets1, ev_stv, ev_bnm, ev_btp, ev_bl0, ev_bl1, ev_R1, ev_R2, ev_iL, ev_iT, ev_itL, ev_itT, ev_forNil, ev_nolI, ev_nolN, ev_nolS, ev_nolB, ev_nolT, ev_nolL0, ev_nolL1, ev_cTrue, ev_wipe, Rz.bind_ok, Rz.bind_exc, Rz.bind_bad, Rz.ofO_some, Rz.ofO_none, onR_ok, onR_exc, onR_bad, onO_some, onO_none, List.getElem?_cons_zero, List.getElem?_cons_succ, ite_true, ite_false, if_true, if_false, reduceIte, Nat.reduceEqDiff, reduceCtorEq, Option.map_some, Option.bind_some, List.cons_append, List.nil_append, Option.map_none, Bool.false_eq_true, Bool.not_true, Bool.not_false, decide_true, decide_false, decide_eq_true_eq, beq_self_eq_true, ev_iSq, ev_itS1, ev_itS2, ev_itS3, ev_itS4, ev_iEn, ev_enS1, ev_enS2, ev_iZp, ev_zpS1, ev_zpS2, ev_Ch, ev_Sl, ev_O0, ev_O1, ev_iO, ev_slT, ev_slL, ev_Rg, ev_Rg3, ev_Ls, ev_lsT, ev_lsL, ev_Isi, ev_Isi2, ev_Rev, ev_revT, ev_Wk, ev_wkN, ev_wkT, ev_tupN, ev_CntT, ev_ctT, ev_IxT, ev_ixT', ev_IxL, ev_ixL', ev_Cnt, ev_ctL, ev_Dic, ev_dg, ev_Sub, ev_Ext, ev_trI, ev_trT, ev_trL, ev_MmD, eq_self, ev_IsE, ev_CallH, ev_unN, ev_unR, ev_TryA, ev_Try, ev_exN, ev_exR, ev_exE, ev_tyN, ev_tyR, ev_tyE, ev_Raise, ev_noxN, ev_noxR, ev_Trg, ev_Cat, List.length_map, m1, m2, m3, hst]) ?_
  refine Nx_own (x := _) (by simp only [ev_C, ev_Var, ev_Bor, ev_Nl, ev_Bin, ev_Tup, ev_L, ev_Fn, ev_Call, ev_nil, ev_cons, ev_If, ev_And, ev_Or, ev_Not, ev_cAnd, ev_cOr, ev_cNot, ev_cB, ev_cTr, ev_toB, ev_IsN, ev_NotN, ev_isN_non, ev_isN_int, ev_isN_str, ev_isN_tup, ev_isN_bl, ev_MulL, ev_MulR, ev_DivC, ev_ModC, ev_Neg, ev_addI, ev_subI, ev_ltI, ev_leI, ev_gtI, ev_geI, ev_eqI, ev_neI, ev_eqS, ev_neS, ev_eqN, ev_neN, ev_eqNI, ev_neNI, ev_eqIN, ev_neIN, ev_eqB, ev_neB, ev_isB, ev_notB, ev_absI, ev_min2, ev_max2, ev_lenT, ev_lenL, ev_lenS, ev_tupL, ev_tupT, ev_intI, ev_intB, ev_ixT, ev_ixL, ev_ixS, at0, at1, at2, at3, atM1, ev_seq, ev_set, ev_own, ev_ret, ev_drop, ev_sIf, ev_for, ev_frz, ev_asg, ev_par2, ev_par3, ev_mVal, ev_mOwn, ev_app, ev_setv, ev_sets0, ev_sets1, ev_stv, ev_bnm, ev_btp, ev_bl0, ev_bl1, ev_R1, ev_R2, ev_iL, ev_iT, ev_itL, ev_itT, ev_forNil, ev_nolI, ev_nolN, ev_nolS, ev_nolB, ev_nolT, ev_nolL0, ev_nolL1, ev_cTrue, ev_wipe, Rz.bind_ok, Rz.bind_exc, Rz.bind_bad, Rz.ofO_some, Rz.ofO_none, onR_ok, onR_exc, onR_bad, onO_some, onO_none, List.getElem?_cons_zero, List.getElem?_cons_succ, ite_true, ite_false, if_true, if_false, reduceIte, Nat.reduceEqDiff, reduceCtorEq, Option.map_some, Option.bind_some, List.cons_append, List.nil_append, Option.map_none, Bool.false_eq_true, Bool.not_true, Bool.not_false, decide_true, decide_false, decide_eq_true_eq, beq_self_eq_true, ev_iSq, ev_itS1, ev_itS2, ev_itS3, ev_itS4, ev_iEn, ev_enS1, ev_enS2, ev_iZp, ev_zpS1, ev_zpS2, ev_Ch, ev_Sl, ev_O0, ev_O1, ev_iO, ev_slT, ev_slL, ev_Rg, ev_Rg3, ev_Ls, ev_lsT, ev_lsL, ev_Isi, ev_Isi2, ev_Rev, ev_revT, ev_Wk, ev_wkN, ev_wkT, ev_tupN, ev_CntT, ev_ctT, ev_IxT, ev_ixT', ev_IxL, ev_ixL', ev_Cnt, ev_ctL, ev_Dic, ev_dg, ev_Sub, ev_Ext, ev_trI, ev_trT, ev_trL, ev_MmD, eq_self, ev_IsE, ev_CallH, ev_unN, ev_unR, ev_TryA, ev_Try, ev_exN, ev_exR, ev_exE, ev_tyN, ev_tyR, ev_tyE, ev_Raise, ev_noxN, ev_noxR, ev_Trg, ev_Cat, List.length_map]; rfl) ?_
  refine Nx_frzO (ds := _) (by simp only [ev_C, ev_Var, ev_Bor, ev_Nl, ev_Bin, ev_Tup, ev_L, ev_Fn, ev_Call, ev_nil, ev_cons, ev_If, ev_And, ev_Or, ev_Not, ev_cAnd, ev_cOr, ev_cNot, ev_cB, ev_cTr, ev_toB, ev_IsN, ev_NotN, ev_isN_non, ev_isN_int, ev_isN_str, ev_isN_tup, ev_isN_bl, ev_MulL, ev_MulR, ev_DivC, ev_ModC, ev_Neg, ev_addI, ev_subI, ev_ltI, ev_leI, ev_gtI, ev_geI, ev_eqI, ev_neI, ev_eqS, ev_neS, ev_eqN, ev_neN, ev_eqNI, ev_neNI, ev_eqIN, ev_neIN, ev_eqB, ev_neB, ev_isB, ev_notB, ev_absI, ev_min2, ev_max2, ev_lenT, ev_lenL, ev_lenS, ev_tupL, ev_tupT, ev_intI, ev_intB, ev_ixT, ev_ixL, ev_ixS, at0, at1, at2, at3, atM1, ev_seq, ev_set, ev_own, ev_ret, ev_drop, ev_sIf, ev_for, ev_frz, ev_asg, ev_par2, ev_par3, ev_mVal, ev_mOwn, ev_app, ev_setv, ev_sets0, ev_sets1, ev_stv, ev_bnm, ev_btp, ev_bl0, ev_bl1, ev_R1, ev_R2, ev_iL, ev_iT, ev_itL, ev_itT, ev_forNil, ev_nolI, ev_nolN, ev_nolS, ev_nolB, ev_nolT, ev_nolL0, ev_nolL1, ev_cTrue, ev_wipe, Rz.bind_ok, Rz.bind_exc, Rz.bind_bad, Rz.ofO_some, Rz.ofO_none, onR_ok, onR_exc, onR_bad, onO_some, onO_none, List.getElem?_cons_zero, List.getElem?_cons_succ, ite_true, ite_false, if_true, if_false, reduceIte, Nat.reduceEqDiff, reduceCtorEq, Option.map_some, Option.bind_some, List.cons_append, List.nil_append, Option.map_none, Bool.false_eq_true, Bool.not_true, Bool.not_false, decide_true, decide_false, decide_eq_true_eq, beq_self_eq_true, ev_iSq, ev_itS1, ev_itS2, ev_itS3, ev_itS4, ev_iEn, ev_enS1, ev_enS2, ev_iZp, ev_zpS1, ev_zpS2, ev_Ch, ev_Sl, ev_O0, ev_O1, ev_iO, ev_slT, ev_slL, ev_Rg, ev_Rg3, ev_Ls, ev_lsT, ev_lsL, ev_Isi, ev_Isi2, ev_Rev, ev_revT, ev_Wk, ev_wkN, ev_wkT, ev_tupN, ev_CntT, ev_ctT, ev_IxT, ev_ixT', ev_IxL, ev_ixL', ev_Cnt, ev_ctL, ev_Dic, ev_dg, ev_Sub, ev_Ext, ev_trI, ev_trT, ev_trL, ev_MmD, eq_self, ev_IsE, ev_CallH, ev_unN, ev_unR, ev_TryA, ev_Try, ev_exN, ev_exR, ev_exE, ev_tyN, ev_tyR, ev_tyE, ev_Raise, ev_noxN, ev_noxR, ev_Trg, ev_Cat]; rfl) ?_
  refine Nx_own (x := _) (by simp only [ev_C, ev_Var, ev_Bor, ev_Nl, ev_Bin, ev_Tup, ev_L, ev_Fn, ev_Call, ev_nil, ev_cons, ev_If, ev_And, ev_Or, ev_Not, ev_cAnd, ev_cOr, ev_cNot, ev_cB, ev_cTr, ev_toB, ev_IsN, ev_NotN, ev_isN_non, ev_isN_int, ev_isN_str, ev_isN_tup, ev_isN_bl, ev_MulL, ev_MulR, ev_DivC, ev_ModC, ev_Neg, ev_addI, ev_subI, ev_ltI, ev_leI, ev_gtI, ev_geI, ev_eqI, ev_neI, ev_eqS, ev_neS, ev_eqN, ev_neN, ev_eqNI, ev_neNI, ev_eqIN, ev_neIN, ev_eqB, ev_neB, ev_isB, ev_notB, ev_absI, ev_min2, ev_max2, ev_lenT, ev_lenL, ev_lenS, ev_tupL, ev_tupT, ev_intI, ev_intB, ev_ixT, ev_ixL, ev_ixS, at0, at1, at2, at3, atM1, ev_seq, ev_set, ev_own, ev_ret, ev_drop, ev_sIf, ev_for, ev_frz, ev_asg, ev_par2, ev_par3, ev_mVal, ev_mOwn, ev_app, ev_setv, ev_sets0, ev_sets1, ev_stv, ev_bnm, ev_btp, ev_bl0, ev_bl1, ev_R1, ev_R2, ev_iL, ev_iT, ev_itL, ev_itT, ev_forNil, ev_nolI, ev_nolN, ev_nolS, ev_nolB, ev_nolT, ev_nolL0, ev_nolL1, ev_cTrue, ev_wipe, Rz.bind_ok, Rz.bind_exc, Rz.bind_bad, Rz.ofO_some, Rz.ofO_none, onR_ok, onR_exc, onR_bad, onO_some, onO_none, List.getElem?_cons_zero, List.getElem?_cons_succ, ite_true, ite_false, if_true, if_false, reduceIte, Nat.reduceEqDiff, reduceCtorEq, Option.map_some, Option.bind_some, List.cons_append, List.nil_append, Option.map_none, Bool.false_eq_true, Bool.not_true, Bool.not_false, decide_true, decide_false, decide_eq_true_eq, beq_self_eq_true, ev_iSq, ev_itS1, ev_itS2, ev_itS3, ev_itS4, ev_iEn, ev_enS1, ev_enS2, ev_iZp, ev_zpS1, ev_zpS2, ev_Ch, ev_Sl, ev_O0, ev_O1, ev_iO, ev_slT, ev_slL, ev_Rg, ev_Rg3, ev_Ls, ev_lsT, ev_lsL, ev_Isi, ev_Isi2, ev_Rev, ev_revT, ev_Wk, ev_wkN, ev_wkT, ev_tupN, ev_CntT, ev_ctT, ev_IxT, ev_ixT', ev_IxL, ev_ixL', ev_Cnt, ev_ctL, ev_Dic, ev_dg, ev_Sub, ev_Ext, ev_trI, ev_trT, ev_trL, ev_MmD, eq_self, ev_IsE, ev_CallH, ev_unN, ev_unR, ev_TryA, ev_Try, ev_exN, ev_exR, ev_exE, ev_tyN, ev_tyR, ev_tyE, ev_Raise, ev_noxN, ev_noxR, ev_Trg, ev_Cat, List.length_map]; exact lcat_ok (by simp)) ?_
  refine Nx_forIx (P01 ns b (0 + k) st) (ds := rngD 0 30) (by simp only [ev_C, ev_Var, ev_Bor, ev_Nl, ev_Bin, ev_Tup, ev_L, ev_Fn, ev_Call, ev_nil, ev_cons, ev_If, ev_And, ev_Or, ev_Not, ev_cAnd, ev_cOr, ev_cNot, ev_cB, ev_cTr, ev_toB, ev_IsN, ev_NotN, ev_isN_non, ev_isN_int, ev_isN_str, ev_isN_tup, ev_isN_bl, ev_MulL, ev_MulR, ev_DivC, ev_ModC, ev_Neg, ev_addI, ev_subI, ev_ltI, ev_leI, ev_gtI, ev_geI, ev_eqI, ev_neI, ev_eqS, ev_neS, ev_eqN, ev_neN, ev_eqNI, ev_neNI, ev_eqIN, ev_neIN, ev_eqB, ev_neB, ev_isB, ev_notB, ev_absI, ev_min2, ev_max2, ev_lenT, ev_lenL, ev_lenS, ev_tupL, ev_tupT, ev_intI, ev_intB, ev_ixT, ev_ixL, ev_ixS, at0, at1, at2, at3, atM1, ev_seq, ev_set, ev_own, ev_ret, ev_drop, ev_sIf, ev_for, ev_frz, ev_asg, ev_par2, ev_par3, ev_mVal, ev_mOwn, ev_app, ev_setv, ev_sets0, ev_sets1, ev_stv, ev_bnm, ev_btp, ev_bl0, ev_bl1, ev_R1, ev_R2, ev_iL, ev_iT, ev_itL, ev_itT, ev_forNil, ev_nolI, ev_nolN, ev_nolS, ev_nolB, ev_nolT, ev_nolL0, ev_nolL1, ev_cTrue, ev_wipe, Rz.bind_ok, Rz.bind_exc, Rz.bind_bad, Rz.ofO_some, Rz.ofO_none, onR_ok, onR_exc, onR_bad, onO_some, onO_none, List.getElem?_cons_zero, List.getElem?_cons_succ, ite_true, ite_false, if_true, if_false, reduceIte, Nat.reduceEqDiff, reduceCtorEq, Option.map_some, Option.bind_some, List.cons_append, List.nil_append, Option.map_none, Bool.false_eq_true, Bool.not_true, Bool.not_false, decide_true, decide_false, decide_eq_true_eq, beq_self_eq_true, ev_iSq, ev_itS1, ev_itS2, ev_itS3, ev_itS4, ev_iEn, ev_enS1, ev_enS2, ev_iZp, ev_zpS1, ev_zpS2, ev_Ch, ev_Sl, ev_O0, ev_O1, ev_iO, ev_slT, ev_slL, ev_Rg, ev_Rg3, ev_Ls, ev_lsT, ev_lsL, ev_Isi, ev_Isi2, ev_Rev, ev_revT, ev_Wk, ev_wkN, ev_wkT, ev_tupN, ev_CntT, ev_ctT, ev_IxT, ev_ixT', ev_IxL, ev_ixL', ev_Cnt, ev_ctL, ev_Dic, ev_dg, ev_Sub, ev_Ext, ev_trI, ev_trT, ev_trL, ev_MmD, eq_self, ev_IsE, ev_CallH, ev_unN, ev_unR, ev_TryA, ev_Try, ev_exN, ev_exR, ev_exE, ev_tyN, ev_tyR, ev_tyE, ev_Raise, ev_noxN, ev_noxR, ev_Trg, ev_Cat]; exact rg1_ok (by decide) (by decide)) ⟨by simp only [ev_C, ev_Var, ev_Bor, ev_Nl, ev_Bin, ev_Tup, ev_L, ev_Fn, ev_Call, ev_nil, ev_cons, ev_If, ev_And, ev_Or, ev_Not, ev_cAnd, ev_cOr, ev_cNot, ev_cB, ev_cTr, ev_toB, ev_IsN, ev_NotN, ev_isN_non, ev_isN_int, ev_isN_str, ev_isN_tup, ev_isN_bl, ev_MulL, ev_MulR, ev_DivC, ev_ModC, ev_Neg, ev_addI, ev_subI, ev_ltI, ev_leI, ev_gtI, ev_geI, ev_eqI, ev_neI, ev_eqS, ev_neS, ev_eqN, ev_neN, ev_eqNI, ev_neNI, ev_eqIN, ev_neIN, ev_eqB, ev_neB, ev_isB, ev_notB, ev_absI, ev_min2, ev_max2, ev_lenT, ev_lenL, ev_lenS, ev_tupL, ev_tupT, ev_intI, ev_intB, ev_ixT, ev_ixL, ev_ixS, at0, at1, at2, at3, atM1, ev_seq, ev_set, ev_own, ev_ret, ev_drop, ev_sIf, ev_for, ev_frz, ev_asg, ev_par2, ev_par3, ev_mVal, ev_mOwn, ev_app, ev_setv, ev_sets0, ev_sets1, ev_stv, ev_bnm, ev_btp, ev_bl0, ev_bl1, ev_R1, ev_R2, ev_iL, ev_iT, ev_itL, ev_itT, ev_forNil, ev_nolI, ev_nolN, ev_nolS, ev_nolB, ev_nolT, ev_nolL0, ev_nolL1, ev_cTrue, ev_wipe, Rz.bind_ok, Rz.bind_exc, Rz.bind_bad, Rz.ofO_some, Rz.ofO_none, onR_ok, onR_exc, onR_bad, onO_some, onO_none, List.getElem?_cons_zero, List.getElem?_cons_succ, ite_true, ite_false, if_true, if_false, reduceIte, Nat.reduceEqDiff, reduceCtorEq, Option.map_some, Option.bind_some, List.cons_append, List.nil_append, Option.map_none, Bool.false_eq_true, Bool.not_true, Bool.not_false, decide_true, decide_false, decide_eq_true_eq, beq_self_eq_true, ev_iSq, ev_itS1, ev_itS2, ev_itS3, ev_itS4, ev_iEn, ev_enS1, ev_enS2, ev_iZp, ev_zpS1, ev_zpS2, ev_Ch, ev_Sl, ev_O0, ev_O1, ev_iO, ev_slT, ev_slL, ev_Rg, ev_Rg3, ev_Ls, ev_lsT, ev_lsL, ev_Isi, ev_Isi2, ev_Rev, ev_revT, ev_Wk, ev_wkN, ev_wkT, ev_tupN, ev_CntT, ev_ctT, ev_IxT, ev_ixT', ev_IxL, ev_ixL', ev_Cnt, ev_ctL, ev_Dic, ev_dg, ev_Sub, ev_Ext, ev_trI, ev_trT, ev_trL, ev_MmD, eq_self, ev_IsE, ev_CallH, ev_unN, ev_unR, ev_TryA, ev_Try, ev_exN, ev_exR, ev_exE, ev_tyN, ev_tyR, ev_tyE, ev_Raise, ev_noxN, ev_noxR, ev_Trg, ev_Cat, h], by simp only [ev_C, ev_Var, ev_Bor, ev_Nl, ev_Bin, ev_Tup, ev_L, ev_Fn, ev_Call, ev_nil, ev_cons, ev_If, ev_And, ev_Or, ev_Not, ev_cAnd, ev_cOr, ev_cNot, ev_cB, ev_cTr, ev_toB, ev_IsN, ev_NotN, ev_isN_non, ev_isN_int, ev_isN_str, ev_isN_tup, ev_isN_bl, ev_MulL, ev_MulR, ev_DivC, ev_ModC, ev_Neg, ev_addI, ev_subI, ev_ltI, ev_leI, ev_gtI, ev_geI, ev_eqI, ev_neI, ev_eqS, ev_neS, ev_eqN, ev_neN, ev_eqNI, ev_neNI, ev_eqIN, ev_neIN, ev_eqB, ev_neB, ev_isB, ev_notB, ev_absI, ev_min2, ev_max2, ev_lenT, ev_lenL, ev_lenS, ev_tupL, ev_tupT, ev_intI, ev_intB, ev_ixT, ev_ixL, ev_ixS, at0, at1, at2, at3, atM1, ev_seq, ev_set, ev_own, ev_ret, ev_drop, ev_sIf, ev_for, ev_frz, ev_asg, ev_par2, ev_par3, ev_mVal, ev_mOwn, ev_app, ev_setv, ev_sets0, ev_sets1, ev_stv, ev_bnm, ev_btp, ev_bl0, ev_bl1, ev_R1, ev_R2, ev_iL, ev_iT, ev_itL, ev_itT, ev_forNil, ev_nolI, ev_nolN, ev_nolS, ev_nolB, ev_nolT, ev_nolL0, ev_nolL1, ev_cTrue, ev_wipe, Rz.bind_ok, Rz.bind_exc, Rz.bind_bad, Rz.ofO_some, Rz.ofO_none, onR_ok, onR_exc, onR_bad, onO_some, onO_none, List.getElem?_cons_zero, List.getElem?_cons_succ, ite_true, ite_false, if_true, if_false, reduceIte, Nat.reduceEqDiff, reduceCtorEq, Option.map_some, Option.bind_some, List.cons_append, List.nil_append, Option.map_none, Bool.false_eq_true, Bool.not_true, Bool.not_false, decide_true, decide_false, decide_eq_true_eq, beq_self_eq_true, ev_iSq, ev_itS1, ev_itS2, ev_itS3, ev_itS4, ev_iEn, ev_enS1, ev_enS2, ev_iZp, ev_zpS1, ev_zpS2, ev_Ch, ev_Sl, ev_O0, ev_O1, ev_iO, ev_slT, ev_slL, ev_Rg, ev_Rg3, ev_Ls, ev_lsT, ev_lsL, ev_Isi, ev_Isi2, ev_Rev, ev_revT, ev_Wk, ev_wkN, ev_wkT, ev_tupN, ev_CntT, ev_ctT, ev_IxT, ev_ixT', ev_IxL, ev_ixL', ev_Cnt, ev_ctL, ev_Dic, ev_dg, ev_Sub, ev_Ext, ev_trI, ev_trT, ev_trL, ev_MmD, eq_self, ev_IsE, ev_CallH, ev_unN, ev_unR, ev_TryA, ev_Try, ev_exN, ev_exR, ev_exE, ev_tyN, ev_tyR, ev_tyE, ev_Raise, ev_noxN, ev_noxR, ev_Trg, ev_Cat], by simp only [ev_C, ev_Var, ev_Bor, ev_Nl, ev_Bin, ev_Tup, ev_L, ev_Fn, ev_Call, ev_nil, ev_cons, ev_If, ev_And, ev_Or, ev_Not, ev_cAnd, ev_cOr, ev_cNot, ev_cB, ev_cTr, ev_toB, ev_IsN, ev_NotN, ev_isN_non, ev_isN_int, ev_isN_str, ev_isN_tup, ev_isN_bl, ev_MulL, ev_MulR, ev_DivC, ev_ModC, ev_Neg, ev_addI, ev_subI, ev_ltI, ev_leI, ev_gtI, ev_geI, ev_eqI, ev_neI, ev_eqS, ev_neS, ev_eqN, ev_neN, ev_eqNI, ev_neNI, ev_eqIN, ev_neIN, ev_eqB, ev_neB, ev_isB, ev_notB, ev_absI, ev_min2, ev_max2, ev_lenT, ev_lenL, ev_lenS, ev_tupL, ev_tupT, ev_intI, ev_intB, ev_ixT, ev_ixL, ev_ixS, at0, at1, at2, at3, atM1, ev_seq, ev_set, ev_own, ev_ret, ev_drop, ev_sIf, ev_for, ev_frz, ev_asg, ev_par2, ev_par3, ev_mVal, ev_mOwn, ev_app, ev_setv, ev_sets0, ev_sets1, ev_stv, ev_bnm, ev_btp, ev_bl0, ev_bl1, ev_R1, ev_R2, ev_iL, ev_iT, ev_itL, ev_itT, ev_forNil, ev_nolI, ev_nolN, ev_nolS, ev_nolB, ev_nolT, ev_nolL0, ev_nolL1, ev_cTrue, ev_wipe, Rz.bind_ok, Rz.bind_exc, Rz.bind_bad, Rz.ofO_some, Rz.ofO_none, onR_ok, onR_exc, onR_bad, onO_some, onO_none, List.getElem?_cons_zero, List.getElem?_cons_succ, ite_true, ite_false, if_true, if_false, reduceIte, Nat.reduceEqDiff, reduceCtorEq, Option.map_some, Option.bind_some, List.cons_append, List.nil_append, Option.map_none, Bool.false_eq_true, Bool.not_true, Bool.not_false, decide_true, decide_false, decide_eq_true_eq, beq_self_eq_true, ev_iSq, ev_itS1, ev_itS2, ev_itS3, ev_itS4, ev_iEn, ev_enS1, ev_enS2, ev_iZp, ev_zpS1, ev_zpS2, ev_Ch, ev_Sl, ev_O0, ev_O1, ev_iO, ev_slT, ev_slL, ev_Rg, ev_Rg3, ev_Ls, ev_lsT, ev_lsL, ev_Isi, ev_Isi2, ev_Rev, ev_revT, ev_Wk, ev_wkN, ev_wkT, ev_tupN, ev_CntT, ev_ctT, ev_IxT, ev_ixT', ev_IxL, ev_ixL', ev_Cnt, ev_ctL, ev_Dic, ev_dg, ev_Sub, ev_Ext, ev_trI, ev_trT, ev_trL, ev_MmD, eq_self, ev_IsE, ev_CallH, ev_unN, ev_unR, ev_TryA, ev_Try, ev_exN, ev_exR, ev_exE, ev_tyN, ev_tyR, ev_tyE, ev_Raise, ev_noxN, ev_noxR, ev_Trg, ev_Cat]; rfl, by simp only [ev_C, ev_Var, ev_Bor, ev_Nl, ev_Bin, ev_Tup, ev_L, ev_Fn, ev_Call, ev_nil, ev_cons, ev_If, ev_And, ev_Or, ev_Not, ev_cAnd, ev_cOr, ev_cNot, ev_cB, ev_cTr, ev_toB, ev_IsN, ev_NotN, ev_isN_non, ev_isN_int, ev_isN_str, ev_isN_tup, ev_isN_bl, ev_MulL, ev_MulR, ev_DivC, ev_ModC, ev_Neg, ev_addI, ev_subI, ev_ltI, ev_leI, ev_gtI, ev_geI, ev_eqI, ev_neI, ev_eqS, ev_neS, ev_eqN, ev_neN, ev_eqNI, ev_neNI, ev_eqIN, ev_neIN, ev_eqB, ev_neB, ev_isB, ev_notB, ev_absI, ev_min2, ev_max2, ev_lenT, ev_lenL, ev_lenS, ev_tupL, ev_tupT, ev_intI, ev_intB, ev_ixT, ev_ixL, ev_ixS, at0, at1, at2, at3, atM1, ev_seq, ev_set, ev_own, ev_ret, ev_drop, ev_sIf, ev_for, ev_frz, ev_asg, ev_par2, ev_par3, ev_mVal, ev_mOwn, ev_app, ev_setv, ev_sets0, ev_sets1, ev_stv, ev_bnm, ev_btp, ev_bl0, ev_bl1, ev_R1, ev_R2, ev_iL, ev_iT, ev_itL, ev_itT, ev_forNil, ev_nolI, ev_nolN, ev_nolS, ev_nolB, ev_nolT, ev_nolL0, ev_nolL1, ev_cTrue, ev_wipe, Rz.bind_ok, Rz.bind_exc, Rz.bind_bad, Rz.ofO_some, Rz.ofO_none, onR_ok, onR_exc, onR_bad, onO_some, onO_none, List.getElem?_cons_zero, List.getElem?_cons_succ, ite_true, ite_false, if_true, if_false, reduceIte, Nat.reduceEqDiff, reduceCtorEq, Option.map_some, Option.bind_some, List.cons_append, List.nil_append, Option.map_none, Bool.false_eq_true, Bool.not_true, Bool.not_false, decide_true, decide_false, decide_eq_true_eq, beq_self_eq_true, ev_iSq, ev_itS1, ev_itS2, ev_itS3, ev_itS4, ev_iEn, ev_enS1, ev_enS2, ev_iZp, ev_zpS1, ev_zpS2, ev_Ch, ev_Sl, ev_O0, ev_O1, ev_iO, ev_slT, ev_slL, ev_Rg, ev_Rg3, ev_Ls, ev_lsT, ev_lsL, ev_Isi, ev_Isi2, ev_Rev, ev_revT, ev_Wk, ev_wkN, ev_wkT, ev_tupN, ev_CntT, ev_ctT, ev_IxT, ev_ixT', ev_IxL, ev_ixL', ev_Cnt, ev_ctL, ev_Dic, ev_dg, ev_Sub, ev_Ext, ev_trI, ev_trT, ev_trL, ev_MmD, eq_self, ev_IsE, ev_CallH, ev_unN, ev_unR, ev_TryA, ev_Try, ev_exN, ev_exR, ev_exE, ev_tyN, ev_tyR, ev_tyE, ev_Raise, ev_noxN, ev_noxR, ev_Trg, ev_Cat], ⟨_, by simp only [ev_C, ev_Var, ev_Bor, ev_Nl, ev_Bin, ev_Tup, ev_L, ev_Fn, ev_Call, ev_nil, ev_cons, ev_If, ev_And, ev_Or, ev_Not, ev_cAnd, ev_cOr, ev_cNot, ev_cB, ev_cTr, ev_toB, ev_IsN, ev_NotN, ev_isN_non, ev_isN_int, ev_isN_str, ev_isN_tup, ev_isN_bl, ev_MulL, ev_MulR, ev_DivC, ev_ModC, ev_Neg, ev_addI, ev_subI, ev_ltI, ev_leI, ev_gtI, ev_geI, ev_eqI, ev_neI, ev_eqS, ev_neS, ev_eqN, ev_neN, ev_eqNI, ev_neNI, ev_eqIN, ev_neIN, ev_eqB, ev_neB, ev_isB, ev_notB, ev_absI, ev_min2, ev_max2, ev_lenT, ev_lenL, ev_lenS, ev_tupL, ev_tupT, ev_intI, ev_intB, ev_ixT, ev_ixL, ev_ixS, at0, at1, at2, at3, atM1, ev_seq, ev_set, ev_own, ev_ret, ev_drop, ev_sIf, ev_for, ev_frz, ev_asg, ev_par2, ev_par3, ev_mVal, ev_mOwn, ev_app, ev_setv, ev_sets0, ev_sets1, ev_stv, ev_bnm, ev_btp, ev_bl0, ev_bl1, ev_R1, ev_R2, ev_iL, ev_iT, ev_itL, ev_itT, ev_forNil, ev_nolI, ev_nolN, ev_nolS, ev_nolB, ev_nolT, ev_nolL0, ev_nolL1, ev_cTrue, ev_wipe, Rz.bind_ok, Rz.bind_exc, Rz.bind_bad, Rz.ofO_some, Rz.ofO_none, onR_ok, onR_exc, onR_bad, onO_some, onO_none, List.getElem?_cons_zero, List.getElem?_cons_succ, ite_true, ite_false, if_true, if_false, reduceIte, Nat.reduceEqDiff, reduceCtorEq, Option.map_some, Option.bind_some, List.cons_append, List.nil_append, Option.map_none, Bool.false_eq_true, Bool.not_true, Bool.not_false, decide_true, decide_false, decide_eq_true_eq, beq_self_eq_true, ev_iSq, ev_itS1, ev_itS2, ev_itS3, ev_itS4, ev_iEn, ev_enS1, ev_enS2, ev_iZp, ev_zpS1, ev_zpS2, ev_Ch, ev_Sl, ev_O0, ev_O1, ev_iO, ev_slT, ev_slL, ev_Rg, ev_Rg3, ev_Ls, ev_lsT, ev_lsL, ev_Isi, ev_Isi2, ev_Rev, ev_revT, ev_Wk, ev_wkN, ev_wkT, ev_tupN, ev_CntT, ev_ctT, ev_IxT, ev_ixT', ev_IxL, ev_ixL', ev_Cnt, ev_ctL, ev_Dic, ev_dg, ev_Sub, ev_Ext, ev_trI, ev_trT, ev_trL, ev_MmD, eq_self, ev_IsE, ev_CallH, ev_unN, ev_unR, ev_TryA, ev_Try, ev_exN, ev_exR, ev_exE, ev_tyN, ev_tyR, ev_tyE, ev_Raise, ev_noxN, ev_noxR, ev_Trg, ev_Cat]; rfl, ?_, by simp⟩, ⟨_, by simp only [ev_C, ev_Var, ev_Bor, ev_Nl, ev_Bin, ev_Tup, ev_L, ev_Fn, ev_Call, ev_nil, ev_cons, ev_If, ev_And, ev_Or, ev_Not, ev_cAnd, ev_cOr, ev_cNot, ev_cB, ev_cTr, ev_toB, ev_IsN, ev_NotN, ev_isN_non, ev_isN_int, ev_isN_str, ev_isN_tup, ev_isN_bl, ev_MulL, ev_MulR, ev_DivC, ev_ModC, ev_Neg, ev_addI, ev_subI, ev_ltI, ev_leI, ev_gtI, ev_geI, ev_eqI, ev_neI, ev_eqS, ev_neS, ev_eqN, ev_neN, ev_eqNI, ev_neNI, ev_eqIN, ev_neIN, ev_eqB, ev_neB, ev_isB, ev_notB, ev_absI, ev_min2, ev_max2, ev_lenT, ev_lenL, ev_lenS, ev_tupL, ev_tupT, ev_intI, ev_intB, ev_ixT, ev_ixL, ev_ixS, at0, at1, at2, at3, atM1, ev_seq, ev_set, ev_own, ev_ret, ev_drop, ev_sIf, ev_for, ev_frz, ev_asg, ev_par2, ev_par3, ev_mVal, ev_mOwn, ev_app, ev_setv, ev_sets0, ev_sets1, ev_stv, ev_bnm, ev_btp, ev_bl0, ev_bl1, ev_R1, ev_R2, ev_iL, ev_iT, ev_itL, ev_itT, ev_forNil, ev_nolI, ev_nolN, ev_nolS, ev_nolB, ev_nolT, ev_nolL0, ev_nolL1, ev_cTrue, ev_wipe, Rz.bind_ok, Rz.bind_exc, Rz.bind_bad, Rz.ofO_some, Rz.ofO_none, onR_ok, onR_exc, onR_bad, onO_some, onO_none, List.getElem?_cons_zero, List.getElem?_cons_succ, ite_true, ite_false, if_true, if_false, reduceIte, Nat.reduceEqDiff, reduceCtorEq, Option.map_some, Option.bind_some, List.cons_append, List.nil_append, Option.map_none, Bool.false_eq_true, Bool.not_true, Bool.not_false, decide_true, decide_false, decide_eq_true_eq, beq_self_eq_true, ev_iSq, ev_itS1, ev_itS2, ev_itS3, ev_itS4, ev_iEn, ev_enS1, ev_enS2, ev_iZp, ev_zpS1, ev_zpS2, ev_Ch, ev_Sl, ev_O0, ev_O1, ev_iO, ev_slT, ev_slL, ev_Rg, ev_Rg3, ev_Ls, ev_lsT, ev_lsL, ev_Isi, ev_Isi2, ev_Rev, ev_revT, ev_Wk, ev_wkN, ev_wkT, ev_tupN, ev_CntT, ev_ctT, ev_IxT, ev_ixT', ev_IxL, ev_ixL', ev_Cnt, ev_ctL, ev_Dic, ev_dg, ev_Sub, ev_Ext, ev_trI, ev_trT, ev_trL, ev_MmD, eq_self, ev_IsE, ev_CallH, ev_unN, ev_unR, ev_TryA, ev_Try, ev_exN, ev_exR, ev_exE, ev_tyN, ev_tyR, ev_tyE, ev_Raise, ev_noxN, ev_noxR, ev_Trg, ev_Cat]; rfl, ?_, by simp⟩⟩ (fun i d hd e he => ?_) fun e he => ?_
  · refine ((((All6.app (.cons ob (.cons ol (.cons oc (.cons rfl .nil)))) (.cons rfl (.cons (od_4 o2) (.cons (od_4 o2) (.cons (od_4 o2) .nil))))).app (.cons (od_4 (c6 [0, 1, 2, 3, 4, 5] (by decide))) (.cons (od_4 (c6 [0, 1, 2, 3, 4, 5, 6] (by decide))) .nil))).app (.cons (od_4 (c6 [0] (by decide))) (.cons (od_4 (c6 [0] (by decide))) .nil))).app (.cons (od_4 (c6 [14] (by decide))) (.cons (od_4 (c6 [15] (by decide))) (.cons (od_4 (c6 [14] (by decide))) .nil)))).app (.cons (od_4 (c6 [3, 3] (by decide))) (.cons (od_4 (c6 [] (by decide))) .nil))
  · exact All6.app (.cons (od_le (by decide) (pd_od ps)) (.cons (od_3 _ _ _) (.cons (od_3 _ _ _) (.cons (od_3 _ _ _) .nil)))) (.cons (od_3 _ _ _) (.cons (od_3 _ _ _) (.cons (od_3 _ _ _) (.cons rfl .nil))))
  · have hi : i < 30 := by
      have := (List.getElem?_eq_some_iff.mp hd).1
      rwa [rngD_len] at this
    rw [rngD_irg, List.getElem?_map] at hd
    cases q : (irg 0 30)[i]? with
    | none => rw [q] at hd; cases hd
    | some x =>
      rw [q] at hd
      cases hd
      exact ⟨_, ev_bnm _ _, add01 hb ps (by omega) x he⟩
  · obtain ⟨h0, h1, h3, h9, ⟨B, b1, b2, b3⟩, ⟨S, s1, s2, s3⟩⟩ := he
    refine Nx_frzO b1 ?_
    refine Nx.for (Q := fun e => Q01 ns b e ∧ e.v 10 = .own S) (ds := B) (by simp only [ev_C, ev_Var, ev_Bor, ev_Nl, ev_Bin, ev_Tup, ev_L, ev_Fn, ev_Call, ev_nil, ev_cons, ev_If, ev_And, ev_Or, ev_Not, ev_cAnd, ev_cOr, ev_cNot, ev_cB, ev_cTr, ev_toB, ev_IsN, ev_NotN, ev_isN_non, ev_isN_int, ev_isN_str, ev_isN_tup, ev_isN_bl, ev_MulL, ev_MulR, ev_DivC, ev_ModC, ev_Neg, ev_addI, ev_subI, ev_ltI, ev_leI, ev_gtI, ev_geI, ev_eqI, ev_neI, ev_eqS, ev_neS, ev_eqN, ev_neN, ev_eqNI, ev_neNI, ev_eqIN, ev_neIN, ev_eqB, ev_neB, ev_isB, ev_notB, ev_absI, ev_min2, ev_max2, ev_lenT, ev_lenL, ev_lenS, ev_tupL, ev_tupT, ev_intI, ev_intB, ev_ixT, ev_ixL, ev_ixS, at0, at1, at2, at3, atM1, ev_seq, ev_set, ev_own, ev_ret, ev_drop, ev_sIf, ev_for, ev_frz, ev_asg, ev_par2, ev_par3, ev_mVal, ev_mOwn, ev_app, ev_setv, ev_sets0, ev_sets1, ev_stv, ev_bnm, ev_btp, ev_bl0, ev_bl1, ev_R1, ev_R2, ev_iL, ev_iT, ev_itL, ev_itT, ev_forNil, ev_nolI, ev_nolN, ev_nolS, ev_nolB, ev_nolT, ev_nolL0, ev_nolL1, ev_cTrue, ev_wipe, Rz.bind_ok, Rz.bind_exc, Rz.bind_bad, Rz.ofO_some, Rz.ofO_none, onR_ok, onR_exc, onR_bad, onO_some, onO_none, List.getElem?_cons_zero, List.getElem?_cons_succ, ite_true, ite_false, if_true, if_false, reduceIte, Nat.reduceEqDiff, reduceCtorEq, Option.map_some, Option.bind_some, List.cons_append, List.nil_append, Option.map_none, Bool.false_eq_true, Bool.not_true, Bool.not_false, decide_true, decide_false, decide_eq_true_eq, beq_self_eq_true, ev_iSq, ev_itS1, ev_itS2, ev_itS3, ev_itS4, ev_iEn, ev_enS1, ev_enS2, ev_iZp, ev_zpS1, ev_zpS2, ev_Ch, ev_Sl, ev_O0, ev_O1, ev_iO, ev_slT, ev_slL, ev_Rg, ev_Rg3, ev_Ls, ev_lsT, ev_lsL, ev_Isi, ev_Isi2, ev_Rev, ev_revT, ev_Wk, ev_wkN, ev_wkT, ev_tupN, ev_CntT, ev_ctT, ev_IxT, ev_ixT', ev_IxL, ev_ixL', ev_Cnt, ev_ctL, ev_Dic, ev_dg, ev_Sub, ev_Ext, ev_trI, ev_trT, ev_trL, ev_MmD, eq_self, ev_IsE, ev_CallH, ev_unN, ev_unR, ev_TryA, ev_Try, ev_exN, ev_exR, ev_exE, ev_tyN, ev_tyR, ev_tyE, ev_Raise, ev_noxN, ev_noxR, ev_Trg, ev_Cat]) ⟨⟨by simp only [ev_C, ev_Var, ev_Bor, ev_Nl, ev_Bin, ev_Tup, ev_L, ev_Fn, ev_Call, ev_nil, ev_cons, ev_If, ev_And, ev_Or, ev_Not, ev_cAnd, ev_cOr, ev_cNot, ev_cB, ev_cTr, ev_toB, ev_IsN, ev_NotN, ev_isN_non, ev_isN_int, ev_isN_str, ev_isN_tup, ev_isN_bl, ev_MulL, ev_MulR, ev_DivC, ev_ModC, ev_Neg, ev_addI, ev_subI, ev_ltI, ev_leI, ev_gtI, ev_geI, ev_eqI, ev_neI, ev_eqS, ev_neS, ev_eqN, ev_neN, ev_eqNI, ev_neNI, ev_eqIN, ev_neIN, ev_eqB, ev_neB, ev_isB, ev_notB, ev_absI, ev_min2, ev_max2, ev_lenT, ev_lenL, ev_lenS, ev_tupL, ev_tupT, ev_intI, ev_intB, ev_ixT, ev_ixL, ev_ixS, at0, at1, at2, at3, atM1, ev_seq, ev_set, ev_own, ev_ret, ev_drop, ev_sIf, ev_for, ev_frz, ev_asg, ev_par2, ev_par3, ev_mVal, ev_mOwn, ev_app, ev_setv, ev_sets0, ev_sets1, ev_stv, ev_bnm, ev_btp, ev_bl0, ev_bl1, ev_R1, ev_R2, ev_iL, ev_iT, ev_itL, ev_itT, ev_forNil, ev_nolI, ev_nolN, ev_nolS, ev_nolB, ev_nolT, ev_nolL0, ev_nolL1, ev_cTrue, ev_wipe, Rz.bind_ok, Rz.bind_exc, Rz.bind_bad, Rz.ofO_some, Rz.ofO_none, onR_ok, onR_exc, onR_bad, onO_some, onO_none, List.getElem?_cons_zero, List.getElem?_cons_succ, ite_true, ite_false, if_true, if_false, reduceIte, Nat.reduceEqDiff, reduceCtorEq, Option.map_some, Option.bind_some, List.cons_append, List.nil_append, Option.map_none, Bool.false_eq_true, Bool.not_true, Bool.not_false, decide_true, decide_false, decide_eq_true_eq, beq_self_eq_true, ev_iSq, ev_itS1, ev_itS2, ev_itS3, ev_itS4, ev_iEn, ev_enS1, ev_enS2, ev_iZp, ev_zpS1, ev_zpS2, ev_Ch, ev_Sl, ev_O0, ev_O1, ev_iO, ev_slT, ev_slL, ev_Rg, ev_Rg3, ev_Ls, ev_lsT, ev_lsL, ev_Isi, ev_Isi2, ev_Rev, ev_revT, ev_Wk, ev_wkN, ev_wkT, ev_tupN, ev_CntT, ev_ctT, ev_IxT, ev_ixT', ev_IxL, ev_ixL', ev_Cnt, ev_ctL, ev_Dic, ev_dg, ev_Sub, ev_Ext, ev_trI, ev_trT, ev_trL, ev_MmD, eq_self, ev_IsE, ev_CallH, ev_unN, ev_unR, ev_TryA, ev_Try, ev_exN, ev_exR, ev_exE, ev_tyN, ev_tyR, ev_tyE, ev_Raise, ev_noxN, ev_noxR, ev_Trg, ev_Cat, h0], by simp only [ev_C, ev_Var, ev_Bor, ev_Nl, ev_Bin, ev_Tup, ev_L, ev_Fn, ev_Call, ev_nil, ev_cons, ev_If, ev_And, ev_Or, ev_Not, ev_cAnd, ev_cOr, ev_cNot, ev_cB, ev_cTr, ev_toB, ev_IsN, ev_NotN, ev_isN_non, ev_isN_int, ev_isN_str, ev_isN_tup, ev_isN_bl, ev_MulL, ev_MulR, ev_DivC, ev_ModC, ev_Neg, ev_addI, ev_subI, ev_ltI, ev_leI, ev_gtI, ev_geI, ev_eqI, ev_neI, ev_eqS, ev_neS, ev_eqN, ev_neN, ev_eqNI, ev_neNI, ev_eqIN, ev_neIN, ev_eqB, ev_neB, ev_isB, ev_notB, ev_absI, ev_min2, ev_max2, ev_lenT, ev_lenL, ev_lenS, ev_tupL, ev_tupT, ev_intI, ev_intB, ev_ixT, ev_ixL, ev_ixS, at0, at1, at2, at3, atM1, ev_seq, ev_set, ev_own, ev_ret, ev_drop, ev_sIf, ev_for, ev_frz, ev_asg, ev_par2, ev_par3, ev_mVal, ev_mOwn, ev_app, ev_setv, ev_sets0, ev_sets1, ev_stv, ev_bnm, ev_btp, ev_bl0, ev_bl1, ev_R1, ev_R2, ev_iL, ev_iT, ev_itL, ev_itT, ev_forNil, ev_nolI, ev_nolN, ev_nolS, ev_nolB, ev_nolT, ev_nolL0, ev_nolL1, ev_cTrue, ev_wipe, Rz.bind_ok, Rz.bind_exc, Rz.bind_bad, Rz.ofO_some, Rz.ofO_none, onR_ok, onR_exc, onR_bad, onO_some, onO_none, List.getElem?_cons_zero, List.getElem?_cons_succ, ite_true, ite_false, if_true, if_false, reduceIte, Nat.reduceEqDiff, reduceCtorEq, Option.map_some, Option.bind_some, List.cons_append, List.nil_append, Option.map_none, Bool.false_eq_true, Bool.not_true, Bool.not_false, decide_true, decide_false, decide_eq_true_eq, beq_self_eq_true, ev_iSq, ev_itS1, ev_itS2, ev_itS3, ev_itS4, ev_iEn, ev_enS1, ev_enS2, ev_iZp, ev_zpS1, ev_zpS2, ev_Ch, ev_Sl, ev_O0, ev_O1, ev_iO, ev_slT, ev_slL, ev_Rg, ev_Rg3, ev_Ls, ev_lsT, ev_lsL, ev_Isi, ev_Isi2, ev_Rev, ev_revT, ev_Wk, ev_wkN, ev_wkT, ev_tupN, ev_CntT, ev_ctT, ev_IxT, ev_ixT', ev_IxL, ev_ixL', ev_Cnt, ev_ctL, ev_Dic, ev_dg, ev_Sub, ev_Ext, ev_trI, ev_trT, ev_trL, ev_MmD, eq_self, ev_IsE, ev_CallH, ev_unN, ev_unR, ev_TryA, ev_Try, ev_exN, ev_exR, ev_exE, ev_tyN, ev_tyR, ev_tyE, ev_Raise, ev_noxN, ev_noxR, ev_Trg, ev_Cat, h3]⟩, by simp only [ev_C, ev_Var, ev_Bor, ev_Nl, ev_Bin, ev_Tup, ev_L, ev_Fn, ev_Call, ev_nil, ev_cons, ev_If, ev_And, ev_Or, ev_Not, ev_cAnd, ev_cOr, ev_cNot, ev_cB, ev_cTr, ev_toB, ev_IsN, ev_NotN, ev_isN_non, ev_isN_int, ev_isN_str, ev_isN_tup, ev_isN_bl, ev_MulL, ev_MulR, ev_DivC, ev_ModC, ev_Neg, ev_addI, ev_subI, ev_ltI, ev_leI, ev_gtI, ev_geI, ev_eqI, ev_neI, ev_eqS, ev_neS, ev_eqN, ev_neN, ev_eqNI, ev_neNI, ev_eqIN, ev_neIN, ev_eqB, ev_neB, ev_isB, ev_notB, ev_absI, ev_min2, ev_max2, ev_lenT, ev_lenL, ev_lenS, ev_tupL, ev_tupT, ev_intI, ev_intB, ev_ixT, ev_ixL, ev_ixS, at0, at1, at2, at3, atM1, ev_seq, ev_set, ev_own, ev_ret, ev_drop, ev_sIf, ev_for, ev_frz, ev_asg, ev_par2, ev_par3, ev_mVal, ev_mOwn, ev_app, ev_setv, ev_sets0, ev_sets1, ev_stv, ev_bnm, ev_btp, ev_bl0, ev_bl1, ev_R1, ev_R2, ev_iL, ev_iT, ev_itL, ev_itT, ev_forNil, ev_nolI, ev_nolN, ev_nolS, ev_nolB, ev_nolT, ev_nolL0, ev_nolL1, ev_cTrue, ev_wipe, Rz.bind_ok, Rz.bind_exc, Rz.bind_bad, Rz.ofO_some, Rz.ofO_none, onR_ok, onR_exc, onR_bad, onO_some, onO_none, List.getElem?_cons_zero, List.getElem?_cons_succ, ite_true, ite_false, if_true, if_false, reduceIte, Nat.reduceEqDiff, reduceCtorEq, Option.map_some, Option.bind_some, List.cons_append, List.nil_append, Option.map_none, Bool.false_eq_true, Bool.not_true, Bool.not_false, decide_true, decide_false, decide_eq_true_eq, beq_self_eq_true, ev_iSq, ev_itS1, ev_itS2, ev_itS3, ev_itS4, ev_iEn, ev_enS1, ev_enS2, ev_iZp, ev_zpS1, ev_zpS2, ev_Ch, ev_Sl, ev_O0, ev_O1, ev_iO, ev_slT, ev_slL, ev_Rg, ev_Rg3, ev_Ls, ev_lsT, ev_lsL, ev_Isi, ev_Isi2, ev_Rev, ev_revT, ev_Wk, ev_wkN, ev_wkT, ev_tupN, ev_CntT, ev_ctT, ev_IxT, ev_ixT', ev_IxL, ev_ixL', ev_Cnt, ev_ctL, ev_Dic, ev_dg, ev_Sub, ev_Ext, ev_trI, ev_trT, ev_trL, ev_MmD, eq_self, ev_IsE, ev_CallH, ev_unN, ev_unR, ev_TryA, ev_Try, ev_exN, ev_exR, ev_exE, ev_tyN, ev_tyR, ev_tyE, ev_Raise, ev_noxN, ev_noxR, ev_Trg, ev_Cat, s1]⟩ (fun d hd e he => ⟨_, ev_bnm _ _, bk01 (b2 d hd) he⟩) fun e he => ?_
    refine Nx_frzO he.2 ?_
    exact (Nx.for1 (P := Q01 ns b) (ds := S) (by simp only [ev_C, ev_Var, ev_Bor, ev_Nl, ev_Bin, ev_Tup, ev_L, ev_Fn, ev_Call, ev_nil, ev_cons, ev_If, ev_And, ev_Or, ev_Not, ev_cAnd, ev_cOr, ev_cNot, ev_cB, ev_cTr, ev_toB, ev_IsN, ev_NotN, ev_isN_non, ev_isN_int, ev_isN_str, ev_isN_tup, ev_isN_bl, ev_MulL, ev_MulR, ev_DivC, ev_ModC, ev_Neg, ev_addI, ev_subI, ev_ltI, ev_leI, ev_gtI, ev_geI, ev_eqI, ev_neI, ev_eqS, ev_neS, ev_eqN, ev_neN, ev_eqNI, ev_neNI, ev_eqIN, ev_neIN, ev_eqB, ev_neB, ev_isB, ev_notB, ev_absI, ev_min2, ev_max2, ev_lenT, ev_lenL, ev_lenS, ev_tupL, ev_tupT, ev_intI, ev_intB, ev_ixT, ev_ixL, ev_ixS, at0, at1, at2, at3, atM1, ev_seq, ev_set, ev_own, ev_ret, ev_drop, ev_sIf, ev_for, ev_frz, ev_asg, ev_par2, ev_par3, ev_mVal, ev_mOwn, ev_app, ev_setv, ev_sets0, ev_sets1, ev_stv, ev_bnm, ev_btp, ev_bl0, ev_bl1, ev_R1, ev_R2, ev_iL, ev_iT, ev_itL, ev_itT, ev_forNil, ev_nolI, ev_nolN, ev_nolS, ev_nolB, ev_nolT, ev_nolL0, ev_nolL1, ev_cTrue, ev_wipe, Rz.bind_ok, Rz.bind_exc, Rz.bind_bad, Rz.ofO_some, Rz.ofO_none, onR_ok, onR_exc, onR_bad, onO_some, onO_none, List.getElem?_cons_zero, List.getElem?_cons_succ, ite_true, ite_false, if_true, if_false, reduceIte, Nat.reduceEqDiff, reduceCtorEq, Option.map_some, Option.bind_some, List.cons_append, List.nil_append, Option.map_none, Bool.false_eq_true, Bool.not_true, Bool.not_false, decide_true, decide_false, decide_eq_true_eq, beq_self_eq_true, ev_iSq, ev_itS1, ev_itS2, ev_itS3, ev_itS4, ev_iEn, ev_enS1, ev_enS2, ev_iZp, ev_zpS1, ev_zpS2, ev_Ch, ev_Sl, ev_O0, ev_O1, ev_iO, ev_slT, ev_slL, ev_Rg, ev_Rg3, ev_Ls, ev_lsT, ev_lsL, ev_Isi, ev_Isi2, ev_Rev, ev_revT, ev_Wk, ev_wkN, ev_wkT, ev_tupN, ev_CntT, ev_ctT, ev_IxT, ev_ixT', ev_IxL, ev_ixL', ev_Cnt, ev_ctL, ev_Dic, ev_dg, ev_Sub, ev_Ext, ev_trI, ev_trT, ev_trL, ev_MmD, eq_self, ev_IsE, ev_CallH, ev_unN, ev_unR, ev_TryA, ev_Try, ev_exN, ev_exR, ev_exE, ev_tyN, ev_tyR, ev_tyE, ev_Raise, ev_noxN, ev_noxR, ev_Trg, ev_Cat]) ⟨by simp only [ev_C, ev_Var, ev_Bor, ev_Nl, ev_Bin, ev_Tup, ev_L, ev_Fn, ev_Call, ev_nil, ev_cons, ev_If, ev_And, ev_Or, ev_Not, ev_cAnd, ev_cOr, ev_cNot, ev_cB, ev_cTr, ev_toB, ev_IsN, ev_NotN, ev_isN_non, ev_isN_int, ev_isN_str, ev_isN_tup, ev_isN_bl, ev_MulL, ev_MulR, ev_DivC, ev_ModC, ev_Neg, ev_addI, ev_subI, ev_ltI, ev_leI, ev_gtI, ev_geI, ev_eqI, ev_neI, ev_eqS, ev_neS, ev_eqN, ev_neN, ev_eqNI, ev_neNI, ev_eqIN, ev_neIN, ev_eqB, ev_neB, ev_isB, ev_notB, ev_absI, ev_min2, ev_max2, ev_lenT, ev_lenL, ev_lenS, ev_tupL, ev_tupT, ev_intI, ev_intB, ev_ixT, ev_ixL, ev_ixS, at0, at1, at2, at3, atM1, ev_seq, ev_set, ev_own, ev_ret, ev_drop, ev_sIf, ev_for, ev_frz, ev_asg, ev_par2, ev_par3, ev_mVal, ev_mOwn, ev_app, ev_setv, ev_sets0, ev_sets1, ev_stv, ev_bnm, ev_btp, ev_bl0, ev_bl1, ev_R1, ev_R2, ev_iL, ev_iT, ev_itL, ev_itT, ev_forNil, ev_nolI, ev_nolN, ev_nolS, ev_nolB, ev_nolT, ev_nolL0, ev_nolL1, ev_cTrue, ev_wipe, Rz.bind_ok, Rz.bind_exc, Rz.bind_bad, Rz.ofO_some, Rz.ofO_none, onR_ok, onR_exc, onR_bad, onO_some, onO_none, List.getElem?_cons_zero, List.getElem?_cons_succ, ite_true, ite_false, if_true, if_false, reduceIte, Nat.reduceEqDiff, reduceCtorEq, Option.map_some, Option.bind_some, List.cons_append, List.nil_append, Option.map_none, Bool.false_eq_true, Bool.not_true, Bool.not_false, decide_true, decide_false, decide_eq_true_eq, beq_self_eq_true, ev_iSq, ev_itS1, ev_itS2, ev_itS3, ev_itS4, ev_iEn, ev_enS1, ev_enS2, ev_iZp, ev_zpS1, ev_zpS2, ev_Ch, ev_Sl, ev_O0, ev_O1, ev_iO, ev_slT, ev_slL, ev_Rg, ev_Rg3, ev_Ls, ev_lsT, ev_lsL, ev_Isi, ev_Isi2, ev_Rev, ev_revT, ev_Wk, ev_wkN, ev_wkT, ev_tupN, ev_CntT, ev_ctT, ev_IxT, ev_ixT', ev_IxL, ev_ixL', ev_Cnt, ev_ctL, ev_Dic, ev_dg, ev_Sub, ev_Ext, ev_trI, ev_trT, ev_trL, ev_MmD, eq_self, ev_IsE, ev_CallH, ev_unN, ev_unR, ev_TryA, ev_Try, ev_exN, ev_exR, ev_exE, ev_tyN, ev_tyR, ev_tyE, ev_Raise, ev_noxN, ev_noxR, ev_Trg, ev_Cat, he.1.h0], by simp only [ev_C, ev_Var, ev_Bor, ev_Nl, ev_Bin, ev_Tup, ev_L, ev_Fn, ev_Call, ev_nil, ev_cons, ev_If, ev_And, ev_Or, ev_Not, ev_cAnd, ev_cOr, ev_cNot, ev_cB, ev_cTr, ev_toB, ev_IsN, ev_NotN, ev_isN_non, ev_isN_int, ev_isN_str, ev_isN_tup, ev_isN_bl, ev_MulL, ev_MulR, ev_DivC, ev_ModC, ev_Neg, ev_addI, ev_subI, ev_ltI, ev_leI, ev_gtI, ev_geI, ev_eqI, ev_neI, ev_eqS, ev_neS, ev_eqN, ev_neN, ev_eqNI, ev_neNI, ev_eqIN, ev_neIN, ev_eqB, ev_neB, ev_isB, ev_notB, ev_absI, ev_min2, ev_max2, ev_lenT, ev_lenL, ev_lenS, ev_tupL, ev_tupT, ev_intI, ev_intB, ev_ixT, ev_ixL, ev_ixS, at0, at1, at2, at3, atM1, ev_seq, ev_set, ev_own, ev_ret, ev_drop, ev_sIf, ev_for, ev_frz, ev_asg, ev_par2, ev_par3, ev_mVal, ev_mOwn, ev_app, ev_setv, ev_sets0, ev_sets1, ev_stv, ev_bnm, ev_btp, ev_bl0, ev_bl1, ev_R1, ev_R2, ev_iL, ev_iT, ev_itL, ev_itT, ev_forNil, ev_nolI, ev_nolN, ev_nolS, ev_nolB, ev_nolT, ev_nolL0, ev_nolL1, ev_cTrue, ev_wipe, Rz.bind_ok, Rz.bind_exc, Rz.bind_bad, Rz.ofO_some, Rz.ofO_none, onR_ok, onR_exc, onR_bad, onO_some, onO_none, List.getElem?_cons_zero, List.getElem?_cons_succ, ite_true, ite_false, if_true, if_false, reduceIte, Nat.reduceEqDiff, reduceCtorEq, Option.map_some, Option.bind_some, List.cons_append, List.nil_append, Option.map_none, Bool.false_eq_true, Bool.not_true, Bool.not_false, decide_true, decide_false, decide_eq_true_eq, beq_self_eq_true, ev_iSq, ev_itS1, ev_itS2, ev_itS3, ev_itS4, ev_iEn, ev_enS1, ev_enS2, ev_iZp, ev_zpS1, ev_zpS2, ev_Ch, ev_Sl, ev_O0, ev_O1, ev_iO, ev_slT, ev_slL, ev_Rg, ev_Rg3, ev_Ls, ev_lsT, ev_lsL, ev_Isi, ev_Isi2, ev_Rev, ev_revT, ev_Wk, ev_wkN, ev_wkT, ev_tupN, ev_CntT, ev_ctT, ev_IxT, ev_ixT', ev_IxL, ev_ixL', ev_Cnt, ev_ctL, ev_Dic, ev_dg, ev_Sub, ev_Ext, ev_trI, ev_trT, ev_trL, ev_MmD, eq_self, ev_IsE, ev_CallH, ev_unN, ev_unR, ev_TryA, ev_Try, ev_exN, ev_exR, ev_exE, ev_tyN, ev_tyR, ev_tyE, ev_Raise, ev_noxN, ev_noxR, ev_Trg, ev_Cat, he.1.h3]⟩ (fun d hd e he => ⟨_, ev_bnm _ _, st01 (s2 d hd) he⟩)).mono fun e he => he.h0
theorem law_true (ns : List Int) (hl : ns.length ≤ 63) : F_law [.scr ns] = .ok (.bl true) := by
  have ch : ∀ b : Book, b.Pre → ∀ c : Bool, (b.Ok ↔ c = true) → F_is_book [b.d] = .ok (.bl c) := fun b h c hc => by
    obtain ⟨c', h1, h2⟩ := F_is_book_eq h
    have : c' = c := by rw [Bool.eq_iff_iff, h2, hc]
    rw [h1, this]
  have two : ∀ (f l p q w : Int), 9 ≤ f → f ≤ 9999 → 0 ≤ l → l < f → 0 ≤ p → p ≤ 14 → 0 ≤ q → q ≤ 14 → p < q → 0 ≤ w → w ≤ 5 → F_is_book [.tup [.int f, .int l, .tup [.int p, .int q], .int w]] = .ok (.bl (decide (l * 10 ^ q.toNat ≤ f * 10 ^ p.toNat))) := by
    intro f l p q w f1 f2 l1 l2 p1 p2 q1 q2 pq w1 w2
    refine ch ⟨f, l, [p, q], w⟩ ⟨f1, f2, l1, l2, by simp, fun x hx => ?_, w1, w2⟩ _ ?_
    · simp only [List.mem_cons, List.not_mem_nil, or_false] at hx
      rcases hx with rfl | rfl
      · exact ⟨p1, p2⟩
      · exact ⟨q1, q2⟩
    · rw [decide_eq_true_eq]
      constructor
      · intro o
        exact o.ch 0 (by simp)
      · intro z
        refine ⟨f1, f2, l1, l2, by simp, by simp, fun x hx => ?_, fun i hi => ?_, fun i hi => ?_, w1, w2⟩
        · simp only [List.mem_cons, List.not_mem_nil, or_false] at hx
          rcases hx with rfl | rfl
          · exact ⟨p1, p2⟩
          · exact ⟨q1, q2⟩
        · have : i = 0 := by simp at hi; omega
          subst this
          exact pq
        · have : i = 0 := by simp at hi; omega
          subst this
          exact z
  have b1 := two 990 99 0 1 0 (by decide) (by decide) (by decide) (by decide) (by decide) (by decide) (by decide) (by decide) (by decide) (by decide) (by decide)
  have b2 := two 990 9 0 2 0 (by decide) (by decide) (by decide) (by decide) (by decide) (by decide) (by decide) (by decide) (by decide) (by decide) (by decide)
  have b3 := two 1999 199 3 4 2 (by decide) (by decide) (by decide) (by decide) (by decide) (by decide) (by decide) (by decide) (by decide) (by decide) (by decide)
  have b4 := two 1999 200 3 4 2 (by decide) (by decide) (by decide) (by decide) (by decide) (by decide) (by decide) (by decide) (by decide) (by decide) (by decide)
  rw [decide_eq_true (by decide)] at b1 b2 b3
  rw [decide_eq_false (by decide)] at b4
  exact fnD_of (Rt.rng (Q := fun e => e.v 0 = .val (.scr ns)) (lo := 0) (n := 10) (by simp only [ev_C, ev_Var, ev_Bor, ev_Nl, ev_Bin, ev_Tup, ev_L, ev_Fn, ev_Call, ev_nil, ev_cons, ev_If, ev_And, ev_Or, ev_Not, ev_cAnd, ev_cOr, ev_cNot, ev_cB, ev_cTr, ev_toB, ev_IsN, ev_NotN, ev_isN_non, ev_isN_int, ev_isN_str, ev_isN_tup, ev_isN_bl, ev_MulL, ev_MulR, ev_DivC, ev_ModC, ev_Neg, ev_addI, ev_subI, ev_ltI, ev_leI, ev_gtI, ev_geI, ev_eqI, ev_neI, ev_eqS, ev_neS, ev_eqN, ev_neN, ev_eqNI, ev_neNI, ev_eqIN, ev_neIN, ev_eqB, ev_neB, ev_isB, ev_notB, ev_absI, ev_min2, ev_max2, ev_lenT, ev_lenL, ev_lenS, ev_tupL, ev_tupT, ev_intI, ev_intB, ev_ixT, ev_ixL, ev_ixS, at0, at1, at2, at3, atM1, ev_seq, ev_set, ev_own, ev_ret, ev_drop, ev_sIf, ev_for, ev_frz, ev_asg, ev_par2, ev_par3, ev_mVal, ev_mOwn, ev_app, ev_setv, ev_sets0, ev_sets1, ev_stv, ev_bnm, ev_btp, ev_bl0, ev_bl1, ev_R1, ev_R2, ev_iL, ev_iT, ev_itL, ev_itT, ev_forNil, ev_nolI, ev_nolN, ev_nolS, ev_nolB, ev_nolT, ev_nolL0, ev_nolL1, ev_cTrue, ev_wipe, Rz.bind_ok, Rz.bind_exc, Rz.bind_bad, Rz.ofO_some, Rz.ofO_none, onR_ok, onR_exc, onR_bad, onO_some, onO_none, List.getElem?_cons_zero, List.getElem?_cons_succ, ite_true, ite_false, if_true, if_false, reduceIte, Nat.reduceEqDiff, reduceCtorEq, Option.map_some, Option.bind_some, List.cons_append, List.nil_append, Option.map_none, Bool.false_eq_true, Bool.not_true, Bool.not_false, decide_true, decide_false, decide_eq_true_eq, beq_self_eq_true, ev_iSq, ev_itS1, ev_itS2, ev_itS3, ev_itS4, ev_iEn, ev_enS1, ev_enS2, ev_iZp, ev_zpS1, ev_zpS2, ev_Ch, ev_Sl, ev_O0, ev_O1, ev_iO, ev_slT, ev_slL, ev_Rg, ev_Rg3, ev_Ls, ev_lsT, ev_lsL, ev_Isi, ev_Isi2, ev_Rev, ev_revT, ev_Wk, ev_wkN, ev_wkT, ev_tupN, ev_CntT, ev_ctT, ev_IxT, ev_ixT', ev_IxL, ev_ixL', ev_Cnt, ev_ctL, ev_Dic, ev_dg, ev_Sub, ev_Ext, ev_trI, ev_trT, ev_trL, ev_MmD, eq_self, ev_IsE, ev_CallH, ev_unN, ev_unR, ev_TryA, ev_Try, ev_exN, ev_exR, ev_exE, ev_tyN, ev_tyR, ev_tyE, ev_Raise, ev_noxN, ev_noxR, ev_Trg, ev_Cat]; exact rg1_ok (by decide) (by decide)) (by simp only [ev_C, ev_Var, ev_Bor, ev_Nl, ev_Bin, ev_Tup, ev_L, ev_Fn, ev_Call, ev_nil, ev_cons, ev_If, ev_And, ev_Or, ev_Not, ev_cAnd, ev_cOr, ev_cNot, ev_cB, ev_cTr, ev_toB, ev_IsN, ev_NotN, ev_isN_non, ev_isN_int, ev_isN_str, ev_isN_tup, ev_isN_bl, ev_MulL, ev_MulR, ev_DivC, ev_ModC, ev_Neg, ev_addI, ev_subI, ev_ltI, ev_leI, ev_gtI, ev_geI, ev_eqI, ev_neI, ev_eqS, ev_neS, ev_eqN, ev_neN, ev_eqNI, ev_neNI, ev_eqIN, ev_neIN, ev_eqB, ev_neB, ev_isB, ev_notB, ev_absI, ev_min2, ev_max2, ev_lenT, ev_lenL, ev_lenS, ev_tupL, ev_tupT, ev_intI, ev_intB, ev_ixT, ev_ixL, ev_ixS, at0, at1, at2, at3, atM1, ev_seq, ev_set, ev_own, ev_ret, ev_drop, ev_sIf, ev_for, ev_frz, ev_asg, ev_par2, ev_par3, ev_mVal, ev_mOwn, ev_app, ev_setv, ev_sets0, ev_sets1, ev_stv, ev_bnm, ev_btp, ev_bl0, ev_bl1, ev_R1, ev_R2, ev_iL, ev_iT, ev_itL, ev_itT, ev_forNil, ev_nolI, ev_nolN, ev_nolS, ev_nolB, ev_nolT, ev_nolL0, ev_nolL1, ev_cTrue, ev_wipe, Rz.bind_ok, Rz.bind_exc, Rz.bind_bad, Rz.ofO_some, Rz.ofO_none, onR_ok, onR_exc, onR_bad, onO_some, onO_none, List.getElem?_cons_zero, List.getElem?_cons_succ, ite_true, ite_false, if_true, if_false, reduceIte, Nat.reduceEqDiff, reduceCtorEq, Option.map_some, Option.bind_some, List.cons_append, List.nil_append, Option.map_none, Bool.false_eq_true, Bool.not_true, Bool.not_false, decide_true, decide_false, decide_eq_true_eq, beq_self_eq_true, ev_iSq, ev_itS1, ev_itS2, ev_itS3, ev_itS4, ev_iEn, ev_enS1, ev_enS2, ev_iZp, ev_zpS1, ev_zpS2, ev_Ch, ev_Sl, ev_O0, ev_O1, ev_iO, ev_slT, ev_slL, ev_Rg, ev_Rg3, ev_Ls, ev_lsT, ev_lsL, ev_Isi, ev_Isi2, ev_Rev, ev_revT, ev_Wk, ev_wkN, ev_wkT, ev_tupN, ev_CntT, ev_ctT, ev_IxT, ev_ixT', ev_IxL, ev_ixL', ev_Cnt, ev_ctL, ev_Dic, ev_dg, ev_Sub, ev_Ext, ev_trI, ev_trT, ev_trL, ev_MmD, eq_self, ev_IsE, ev_CallH, ev_unN, ev_unR, ev_TryA, ev_Try, ev_exN, ev_exR, ev_exE, ev_tyN, ev_tyR, ev_tyE, ev_Raise, ev_noxN, ev_noxR, ev_Trg, ev_Cat]) (fun k hk e he => k01 k hk he) fun e he => Rt.iff (by simp only [ev_C, ev_Var, ev_Bor, ev_Nl, ev_Bin, ev_Tup, ev_L, ev_Fn, ev_Call, ev_nil, ev_cons, ev_If, ev_And, ev_Or, ev_Not, ev_cAnd, ev_cOr, ev_cNot, ev_cB, ev_cTr, ev_toB, ev_IsN, ev_NotN, ev_isN_non, ev_isN_int, ev_isN_str, ev_isN_tup, ev_isN_bl, ev_MulL, ev_MulR, ev_DivC, ev_ModC, ev_Neg, ev_addI, ev_subI, ev_ltI, ev_leI, ev_gtI, ev_geI, ev_eqI, ev_neI, ev_eqS, ev_neS, ev_eqN, ev_neN, ev_eqNI, ev_neNI, ev_eqIN, ev_neIN, ev_eqB, ev_neB, ev_isB, ev_notB, ev_absI, ev_min2, ev_max2, ev_lenT, ev_lenL, ev_lenS, ev_tupL, ev_tupT, ev_intI, ev_intB, ev_ixT, ev_ixL, ev_ixS, at0, at1, at2, at3, atM1, ev_seq, ev_set, ev_own, ev_ret, ev_drop, ev_sIf, ev_for, ev_frz, ev_asg, ev_par2, ev_par3, ev_mVal, ev_mOwn, ev_app, ev_setv, ev_sets0, ev_sets1, ev_stv, ev_bnm, ev_btp, ev_bl0, ev_bl1, ev_R1, ev_R2, ev_iL, ev_iT, ev_itL, ev_itT, ev_forNil, ev_nolI, ev_nolN, ev_nolS, ev_nolB, ev_nolT, ev_nolL0, ev_nolL1, ev_cTrue, ev_wipe, Rz.bind_ok, Rz.bind_exc, Rz.bind_bad, Rz.ofO_some, Rz.ofO_none, onR_ok, onR_exc, onR_bad, onO_some, onO_none, List.getElem?_cons_zero, List.getElem?_cons_succ, ite_true, ite_false, if_true, if_false, reduceIte, Nat.reduceEqDiff, reduceCtorEq, Option.map_some, Option.bind_some, List.cons_append, List.nil_append, Option.map_none, Bool.false_eq_true, Bool.not_true, Bool.not_false, decide_true, decide_false, decide_eq_true_eq, beq_self_eq_true, ev_iSq, ev_itS1, ev_itS2, ev_itS3, ev_itS4, ev_iEn, ev_enS1, ev_enS2, ev_iZp, ev_zpS1, ev_zpS2, ev_Ch, ev_Sl, ev_O0, ev_O1, ev_iO, ev_slT, ev_slL, ev_Rg, ev_Rg3, ev_Ls, ev_lsT, ev_lsL, ev_Isi, ev_Isi2, ev_Rev, ev_revT, ev_Wk, ev_wkN, ev_wkT, ev_tupN, ev_CntT, ev_ctT, ev_IxT, ev_ixT', ev_IxL, ev_ixL', ev_Cnt, ev_ctL, ev_Dic, ev_dg, ev_Sub, ev_Ext, ev_trI, ev_trT, ev_trL, ev_MmD, eq_self, ev_IsE, ev_CallH, ev_unN, ev_unR, ev_TryA, ev_Try, ev_exN, ev_exR, ev_exE, ev_tyN, ev_tyR, ev_tyE, ev_Raise, ev_noxN, ev_noxR, ev_Trg, ev_Cat, b1, b2]) (Rt.ret (by simp only [ev_C, ev_Var, ev_Bor, ev_Nl, ev_Bin, ev_Tup, ev_L, ev_Fn, ev_Call, ev_nil, ev_cons, ev_If, ev_And, ev_Or, ev_Not, ev_cAnd, ev_cOr, ev_cNot, ev_cB, ev_cTr, ev_toB, ev_IsN, ev_NotN, ev_isN_non, ev_isN_int, ev_isN_str, ev_isN_tup, ev_isN_bl, ev_MulL, ev_MulR, ev_DivC, ev_ModC, ev_Neg, ev_addI, ev_subI, ev_ltI, ev_leI, ev_gtI, ev_geI, ev_eqI, ev_neI, ev_eqS, ev_neS, ev_eqN, ev_neN, ev_eqNI, ev_neNI, ev_eqIN, ev_neIN, ev_eqB, ev_neB, ev_isB, ev_notB, ev_absI, ev_min2, ev_max2, ev_lenT, ev_lenL, ev_lenS, ev_tupL, ev_tupT, ev_intI, ev_intB, ev_ixT, ev_ixL, ev_ixS, at0, at1, at2, at3, atM1, ev_seq, ev_set, ev_own, ev_ret, ev_drop, ev_sIf, ev_for, ev_frz, ev_asg, ev_par2, ev_par3, ev_mVal, ev_mOwn, ev_app, ev_setv, ev_sets0, ev_sets1, ev_stv, ev_bnm, ev_btp, ev_bl0, ev_bl1, ev_R1, ev_R2, ev_iL, ev_iT, ev_itL, ev_itT, ev_forNil, ev_nolI, ev_nolN, ev_nolS, ev_nolB, ev_nolT, ev_nolL0, ev_nolL1, ev_cTrue, ev_wipe, Rz.bind_ok, Rz.bind_exc, Rz.bind_bad, Rz.ofO_some, Rz.ofO_none, onR_ok, onR_exc, onR_bad, onO_some, onO_none, List.getElem?_cons_zero, List.getElem?_cons_succ, ite_true, ite_false, if_true, if_false, reduceIte, Nat.reduceEqDiff, reduceCtorEq, Option.map_some, Option.bind_some, List.cons_append, List.nil_append, Option.map_none, Bool.false_eq_true, Bool.not_true, Bool.not_false, decide_true, decide_false, decide_eq_true_eq, beq_self_eq_true, ev_iSq, ev_itS1, ev_itS2, ev_itS3, ev_itS4, ev_iEn, ev_enS1, ev_enS2, ev_iZp, ev_zpS1, ev_zpS2, ev_Ch, ev_Sl, ev_O0, ev_O1, ev_iO, ev_slT, ev_slL, ev_Rg, ev_Rg3, ev_Ls, ev_lsT, ev_lsL, ev_Isi, ev_Isi2, ev_Rev, ev_revT, ev_Wk, ev_wkN, ev_wkT, ev_tupN, ev_CntT, ev_ctT, ev_IxT, ev_ixT', ev_IxL, ev_ixL', ev_Cnt, ev_ctL, ev_Dic, ev_dg, ev_Sub, ev_Ext, ev_trI, ev_trT, ev_trL, ev_MmD, eq_self, ev_IsE, ev_CallH, ev_unN, ev_unR, ev_TryA, ev_Try, ev_exN, ev_exR, ev_exE, ev_tyN, ev_tyR, ev_tyE, ev_Raise, ev_noxN, ev_noxR, ev_Trg, ev_Cat, b3, b4])))
end Law
set_option Elab.async false
set_option linter.all false
set_option maxRecDepth 100000
set_option maxHeartbeats 4000000
namespace Law
open PySem PySem.Spec PyProof.Rows L2 G
def topS (i : Nat) : Stmt := PySem.Challenge.pw_rangepicks_k01_books.main.body.getD i (.Pass ⟨0, 0, 0, 0⟩)
abbrev s_is_whole : Stmt := topS 6
theorem sc_is_whole : FnScope ["thing", "low", "high"] ["thing", "low", "high"] (defScope s_is_whole) := ⟨rfl, rfl, rfl, by decide +kernel, rfl, by decide +kernel, by decide +kernel⟩
abbrev s_ten_to : Stmt := topS 7
theorem sc_ten_to : FnScope ["power", "found", "turn"] ["power"] (defScope s_ten_to) := ⟨rfl, rfl, rfl, by decide +kernel, rfl, by decide +kernel, by decide +kernel⟩
abbrev s_is_book : Stmt := topS 8
theorem sc_is_book : FnScope ["thing", "full", "low", "powers", "wait", "k", "power"] ["thing"] (defScope s_is_book) := ⟨rfl, rfl, rfl, by decide +kernel, rfl, by decide +kernel, by decide +kernel⟩
abbrev s_last_of : Stmt := topS 9
theorem sc_last_of : FnScope ["book"] ["book"] (defScope s_last_of) := ⟨rfl, rfl, rfl, by decide +kernel, rfl, by decide +kernel, by decide +kernel⟩
abbrev s_is_state : Stmt := topS 10
theorem sc_is_state : FnScope ["book", "thing"] ["book", "thing"] (defScope s_is_state) := ⟨rfl, rfl, rfl, by decide +kernel, rfl, by decide +kernel, by decide +kernel⟩
abbrev s_law_cell : Stmt := topS 12
theorem sc_law_cell : FnScope ["script", "k"] ["script", "k"] (defScope s_law_cell) := ⟨rfl, rfl, rfl, by decide +kernel, rfl, by decide +kernel, by decide +kernel⟩
abbrev s_law_mix : Stmt := topS 13
theorem sc_law_mix : FnScope ["cell", "prime", "many", "blend"] ["cell", "prime", "many"] (defScope s_law_mix) := ⟨rfl, rfl, rfl, by decide +kernel, rfl, by decide +kernel, by decide +kernel⟩
abbrev s_law_ten : Stmt := topS 14
theorem sc_law_ten : FnScope ["power", "number", "turn"] ["power"] (defScope s_law_ten) := ⟨rfl, rfl, rfl, by decide +kernel, rfl, by decide +kernel, by decide +kernel⟩
abbrev s_law_book : Stmt := topS 15
theorem sc_law_book : FnScope ["cell", "full", "powers", "k", "high", "low", "power"] ["cell"] (defScope s_law_book) := ⟨rfl, rfl, rfl, by decide +kernel, rfl, by decide +kernel, by decide +kernel⟩
abbrev s_law_odd : Stmt := topS 16
theorem sc_law_odd : FnScope ["thing", "cell", "at", "some"] ["thing", "cell"] (defScope s_law_odd) := ⟨rfl, rfl, rfl, by decide +kernel, rfl, by decide +kernel, by decide +kernel⟩
abbrev s_law_whole : Stmt := topS 17
theorem sc_law_whole : FnScope ["thing", "low", "high"] ["thing", "low", "high"] (defScope s_law_whole) := ⟨rfl, rfl, rfl, by decide +kernel, rfl, by decide +kernel, by decide +kernel⟩
abbrev s_law_is_book : Stmt := topS 18
theorem sc_law_is_book : FnScope ["thing", "powers", "n", "one"] ["thing"] (defScope s_law_is_book) := ⟨rfl, rfl, rfl, by decide +kernel, rfl, by decide +kernel, by decide +kernel⟩
abbrev s_law_is_state : Stmt := topS 19
theorem sc_law_is_state : FnScope ["book", "thing"] ["book", "thing"] (defScope s_law_is_state) := ⟨rfl, rfl, rfl, by decide +kernel, rfl, by decide +kernel, by decide +kernel⟩
abbrev s_law : Stmt := topS 20
theorem sc_law : FnScope ["script", "k", "cell", "one", "full", "low", "powers", "wait", "books", "state", "states", "j", "seed", "thing", "said", "due"] ["script"] (defScope s_law) := ⟨rfl, rfl, rfl, by decide +kernel, rfl, by decide +kernel, by decide +kernel⟩
structure Top (K : PySem.W.Frag) (mg : Str → Option Value) (f_is_whole f_ten_to f_is_book f_last_of f_is_state f_law_cell f_law_mix f_law_ten f_law_book f_law_odd f_law_whole f_law_is_book f_law_is_state f_law : Addr) (fd_is_whole fd_ten_to fd_is_book fd_last_of fd_is_state fd_law_cell fd_law_mix fd_law_ten fd_law_book fd_law_odd fd_law_whole fd_law_is_book fd_law_is_state fd_law : FuncData) : Prop where
  F_is_whole : Fun K "is_whole" "is_whole" s_is_whole f_is_whole fd_is_whole
  b_is_whole : Binds K fd_is_whole ["thing", "low", "high"] []
  g_is_whole : mg "is_whole" = some (.ref f_is_whole)
  F_ten_to : Fun K "ten_to" "ten_to" s_ten_to f_ten_to fd_ten_to
  b_ten_to : Binds K fd_ten_to ["power"] []
  g_ten_to : mg "ten_to" = some (.ref f_ten_to)
  F_is_book : Fun K "is_book" "is_book" s_is_book f_is_book fd_is_book
  b_is_book : Binds K fd_is_book ["thing"] []
  g_is_book : mg "is_book" = some (.ref f_is_book)
  F_last_of : Fun K "last_of" "last_of" s_last_of f_last_of fd_last_of
  b_last_of : Binds K fd_last_of ["book"] []
  g_last_of : mg "last_of" = some (.ref f_last_of)
  F_is_state : Fun K "is_state" "is_state" s_is_state f_is_state fd_is_state
  b_is_state : Binds K fd_is_state ["book", "thing"] []
  g_is_state : mg "is_state" = some (.ref f_is_state)
  F_law_cell : Fun K "_law_cell" "_law_cell" s_law_cell f_law_cell fd_law_cell
  b_law_cell : Binds K fd_law_cell ["script", "k"] []
  g_law_cell : mg "_law_cell" = some (.ref f_law_cell)
  F_law_mix : Fun K "_law_mix" "_law_mix" s_law_mix f_law_mix fd_law_mix
  b_law_mix : Binds K fd_law_mix ["cell", "prime", "many"] []
  g_law_mix : mg "_law_mix" = some (.ref f_law_mix)
  F_law_ten : Fun K "_law_ten" "_law_ten" s_law_ten f_law_ten fd_law_ten
  b_law_ten : Binds K fd_law_ten ["power"] []
  g_law_ten : mg "_law_ten" = some (.ref f_law_ten)
  F_law_book : Fun K "_law_book" "_law_book" s_law_book f_law_book fd_law_book
  b_law_book : Binds K fd_law_book ["cell"] []
  g_law_book : mg "_law_book" = some (.ref f_law_book)
  F_law_odd : Fun K "_law_odd" "_law_odd" s_law_odd f_law_odd fd_law_odd
  b_law_odd : Binds K fd_law_odd ["thing", "cell"] []
  g_law_odd : mg "_law_odd" = some (.ref f_law_odd)
  F_law_whole : Fun K "_law_whole" "_law_whole" s_law_whole f_law_whole fd_law_whole
  b_law_whole : Binds K fd_law_whole ["thing", "low", "high"] []
  g_law_whole : mg "_law_whole" = some (.ref f_law_whole)
  F_law_is_book : Fun K "_law_is_book" "_law_is_book" s_law_is_book f_law_is_book fd_law_is_book
  b_law_is_book : Binds K fd_law_is_book ["thing"] []
  g_law_is_book : mg "_law_is_book" = some (.ref f_law_is_book)
  F_law_is_state : Fun K "_law_is_state" "_law_is_state" s_law_is_state f_law_is_state fd_law_is_state
  b_law_is_state : Binds K fd_law_is_state ["book", "thing"] []
  g_law_is_state : mg "_law_is_state" = some (.ref f_law_is_state)
  F_law : Fun K "law" "law" s_law f_law fd_law
  b_law : Binds K fd_law ["script"] []
  g_law : mg "law" = some (.ref f_law)
  m_all : mg "all" = none
  m_bool : mg "bool" = none
  m_int : mg "int" = none
  m_isinstance : mg "isinstance" = none
  m_len : mg "len" = none
  m_list : mg "list" = none
  m_min : mg "min" = none
  m_range : mg "range" = none
  m_str : mg "str" = none
  m_tuple : mg "tuple" = none
  c_LEAST_FULL : ∃ t, mg "LEAST_FULL" = some (.int 9 t)
  c_MOST_FULL : ∃ t, mg "MOST_FULL" = some (.int 9999 t)
  c_MOST_POWER : ∃ t, mg "MOST_POWER" = some (.int 14 t)
  c_MOST_RANGES : ∃ t, mg "MOST_RANGES" = some (.int 6 t)
  c_MOST_WAIT : ∃ t, mg "MOST_WAIT" = some (.int 5 t)
section
variable {P : Program} {w : World} {K : PySem.W.Frag} {mg : Str → Option Value} {base : Heap} {ca : Nat → Addr} {f_is_whole f_ten_to f_is_book f_last_of f_is_state f_law_cell f_law_mix f_law_ten f_law_book f_law_odd f_law_whole f_law_is_book f_law_is_state f_law : Addr} {fd_is_whole fd_ten_to fd_is_book fd_last_of fd_is_state fd_law_cell fd_law_mix fd_law_ten fd_law_book fd_law_odd fd_law_whole fd_law_is_book fd_law_is_state fd_law : FuncData}
theorem ok_is_whole (T : Top K mg f_is_whole f_ten_to f_is_book f_last_of f_is_state f_law_cell f_law_mix f_law_ten f_law_book f_law_odd f_law_whole f_law_is_book f_law_is_state f_law fd_is_whole fd_ten_to fd_is_book fd_last_of fd_is_state fd_law_cell fd_law_mix fd_law_ten fd_law_book fd_law_odd fd_law_whole fd_law_is_book fd_law_is_state fd_law) : FnOk P w K mg base (L2N.CX P w) 1 f_is_whole fd_is_whole ["thing", "low", "high"] (spOf K ca 3 F_is_whole) := by
  refine fn_ok (k := 0) (g := g_is_whole) T.F_is_whole sc_is_whole fun cdv A outer s H E Φ hr tk po => ?_
  have nd := sc_is_whole.nd
  exact (dss_one (ds_ret (de_and (de_isi T.m_isinstance T.m_int (by decide +kernel) (de_var 0)) (de_and (de_not (de_isi T.m_isinstance T.m_bool (by decide +kernel) (de_var 0))) (de_one (de_ch op_le op_le opd_le opd_le (de_var 1) (de_var 0) (de_var 2)))))))
theorem ok_ten_to (T : Top K mg f_is_whole f_ten_to f_is_book f_last_of f_is_state f_law_cell f_law_mix f_law_ten f_law_book f_law_odd f_law_whole f_law_is_book f_law_is_state f_law fd_is_whole fd_ten_to fd_is_book fd_last_of fd_is_state fd_law_cell fd_law_mix fd_law_ten fd_law_book fd_law_odd fd_law_whole fd_law_is_book fd_law_is_state fd_law) : FnOk P w K mg base (L2N.CX P w) 1 f_ten_to fd_ten_to ["power"] (spOf K ca 1 F_ten_to) := by
  refine fn_ok (k := 0) (g := g_ten_to) T.F_ten_to sc_ten_to fun cdv A outer s H E Φ hr tk po => ?_
  have nd := sc_ten_to.nd
  exact (dss_cons (ds_set (i := 1) de_int nd)
    (dss_cons (ds_for po rfl (di_range1 T.m_range (de_var 0)) (dg_name (i := 2) nd) (show DSs _ _ _ _ _ g_ten_to_b0 from (dss_one (ds_set (i := 1) (de_mulR (de_var 1)) nd))))
    (dss_one (ds_ret (de_var 1)))))
theorem ok_is_book (T : Top K mg f_is_whole f_ten_to f_is_book f_last_of f_is_state f_law_cell f_law_mix f_law_ten f_law_book f_law_odd f_law_whole f_law_is_book f_law_is_state f_law fd_is_whole fd_ten_to fd_is_book fd_last_of fd_is_state fd_law_cell fd_law_mix fd_law_ten fd_law_book fd_law_odd fd_law_whole fd_law_is_book fd_law_is_state fd_law) : FnOk P w K mg base (L2N.CX P w) 2 f_is_book fd_is_book ["thing"] (spOf K ca 1 F_is_book) := by
  refine fn_ok (k := 1) (g := g_is_book) T.F_is_book sc_is_book fun cdv A outer s H E Φ hr tk po => ?_
  have nd := sc_is_book.nd
  exact (dss_cons (ds_if (dt_w (dw_or (dt_not (dt_val (b := true) (de_isi T.m_isinstance T.m_tuple (by decide +kernel) (de_var 0)))) (dw_or (dt_ne (b := true) hr.rm (de_len T.m_len (de_var 0)) de_int) (dw_or1 (dt_not (dt_val (b := true) (de_call (ok_is_whole T) (hr.mono (by decide)) tk T.g_is_whole T.F_is_whole.kp T.b_is_whole (da_cons (de_ix (de_var 0) de_int) (da_cons (de_globI rfl T.c_LEAST_FULL.choose_spec) (da_cons (de_globI rfl T.c_MOST_FULL.choose_spec) da_nil)))))))))) (dss_one (ds_ret de_bl)) dss_nil)
    (dss_cons (ds_asg (de_var 0) (dg_tup rfl (dgs_cons (dg_name (i := 1) nd) (dgs_cons (dg_name (i := 2) nd) (dgs_cons (dg_name (i := 3) nd) (dgs_cons (dg_name (i := 4) nd) dgs_nil))))))
    (dss_cons (ds_if (dt_w (dw_or (dt_not (dt_val (b := true) (de_call (ok_is_whole T) (hr.mono (by decide)) tk T.g_is_whole T.F_is_whole.kp T.b_is_whole (da_cons (de_var 2) (da_cons de_int (da_cons (de_sub (de_var 1) de_int) da_nil)))))) (dw_or1 (dt_not (dt_val (b := true) (de_call (ok_is_whole T) (hr.mono (by decide)) tk T.g_is_whole T.F_is_whole.kp T.b_is_whole (da_cons (de_var 4) (da_cons de_int (da_cons (de_globI rfl T.c_MOST_WAIT.choose_spec) da_nil))))))))) (dss_one (ds_ret de_bl)) dss_nil)
    (dss_cons (ds_if (dt_w (dw_or (dt_not (dt_val (b := true) (de_isi T.m_isinstance T.m_tuple (by decide +kernel) (de_var 3)))) (dw_or1 (dt_not (dt_ch (b := true) op_le op_le opd_le opd_le de_int (de_len T.m_len (de_var 3)) (de_globI rfl T.c_MOST_RANGES.choose_spec)))))) (dss_one (ds_ret de_bl)) dss_nil)
    (dss_cons (ds_if (dt_not (dt_val (b := true) (de_all rfl T.m_all (de_l (dl_lc [("power", 6)] rfl nd (di_seq (de_var 3)) rfl (fun _ _ _ _ _ => (dg_name (i := 6) nd)) (fun _ _ _ _ _ => dts_nil) (fun _ _ _ _ _ => (de_call (ok_is_whole T) (hr.mono (by decide)) takesN T.g_is_whole T.F_is_whole.kp T.b_is_whole (da_cons (de_var 6) (da_cons de_int (da_cons (de_globI rfl T.c_MOST_POWER.choose_spec) da_nil)))))))))) (dss_one (ds_ret de_bl)) dss_nil)
    (dss_cons (ds_for po rfl (di_range2 T.m_range de_int (de_len T.m_len (de_var 3))) (dg_name (i := 5) nd) (show DSs _ _ _ _ _ g_is_book_b0 from (dss_one (ds_if (dt_w (dw_or (dt_ge (b := true) (de_ix (de_var 3) (de_sub (de_var 5) de_int)) (de_ix (de_var 3) (de_var 5))) (dw_or1 (dt_gt (b := true) (de_mul (de_var 2) (de_call (ok_ten_to T) (hr.mono (by decide)) tk T.g_ten_to T.F_ten_to.kp T.b_ten_to (da_cons (de_ix (de_var 3) (de_var 5)) da_nil))) (de_mul (de_var 1) (de_call (ok_ten_to T) (hr.mono (by decide)) tk T.g_ten_to T.F_ten_to.kp T.b_ten_to (da_cons (de_ix (de_var 3) (de_sub (de_var 5) de_int)) da_nil))))))) (dss_one (ds_ret de_bl)) dss_nil))))
    (dss_one (ds_ret de_bl))))))))
theorem ok_last_of (T : Top K mg f_is_whole f_ten_to f_is_book f_last_of f_is_state f_law_cell f_law_mix f_law_ten f_law_book f_law_odd f_law_whole f_law_is_book f_law_is_state f_law fd_is_whole fd_ten_to fd_is_book fd_last_of fd_is_state fd_law_cell fd_law_mix fd_law_ten fd_law_book fd_law_odd fd_law_whole fd_law_is_book fd_law_is_state fd_law) : FnOk P w K mg base (L2N.CX P w) 1 f_last_of fd_last_of ["book"] (spOf K ca 1 F_last_of) := by
  refine fn_ok (k := 0) (g := g_last_of) T.F_last_of sc_last_of fun cdv A outer s H E Φ hr tk po => ?_
  have nd := sc_last_of.nd
  exact (dss_one (ds_ret (de_sub (de_len T.m_len (de_ix (de_var 0) de_int)) de_int)))
theorem ok_is_state (T : Top K mg f_is_whole f_ten_to f_is_book f_last_of f_is_state f_law_cell f_law_mix f_law_ten f_law_book f_law_odd f_law_whole f_law_is_book f_law_is_state f_law fd_is_whole fd_ten_to fd_is_book fd_last_of fd_is_state fd_law_cell fd_law_mix fd_law_ten fd_law_book fd_law_odd fd_law_whole fd_law_is_book fd_law_is_state fd_law) : FnOk P w K mg base (L2N.CX P w) 2 f_is_state fd_is_state ["book", "thing"] (spOf K ca 2 F_is_state) := by
  refine fn_ok (k := 1) (g := g_is_state) T.F_is_state sc_is_state fun cdv A outer s H E Φ hr tk po => ?_
  have nd := sc_is_state.nd
  exact (dss_cons (ds_if (dt_w (dw_or (dt_not (dt_val (b := true) (de_isi T.m_isinstance T.m_tuple (by decide +kernel) (de_var 1)))) (dw_or (dt_ne (b := true) hr.rm (de_len T.m_len (de_var 1)) de_int) (dw_or1 (dt_not (dt_val (b := true) (de_call (ok_is_whole T) (hr.mono (by decide)) tk T.g_is_whole T.F_is_whole.kp T.b_is_whole (da_cons (de_ix (de_var 1) de_int) (da_cons de_int (da_cons (de_call (ok_last_of T) (hr.mono (by decide)) tk T.g_last_of T.F_last_of.kp T.b_last_of (da_cons (de_var 0) da_nil)) da_nil)))))))))) (dss_one (ds_ret de_bl)) dss_nil)
    (dss_cons (ds_if (dt_w (dw_or (dt_not (dt_val (b := true) (de_call (ok_is_whole T) (hr.mono (by decide)) tk T.g_is_whole T.F_is_whole.kp T.b_is_whole (da_cons (de_ix (de_var 1) de_int) (da_cons (de_neg de_int) (da_cons de_int da_nil)))))) (dw_or1 (dt_not (dt_val (b := true) (de_call (ok_is_whole T) (hr.mono (by decide)) tk T.g_is_whole T.F_is_whole.kp T.b_is_whole (da_cons (de_ix (de_var 1) de_int) (da_cons de_int (da_cons (de_ix (de_var 0) de_int) da_nil))))))))) (dss_one (ds_ret de_bl)) dss_nil)
    (dss_cons (ds_if (dt_w (dw_or (dt_w (dw_and (dt_eq (b := true) hr.rm (de_ix (de_var 1) de_int) (de_neg de_int)) (dw_and1 (dt_eq (b := true) hr.rm (de_ix (de_var 1) de_int) de_int)))) (dw_or1 (dt_w (dw_and (dt_eq (b := true) hr.rm (de_ix (de_var 1) de_int) de_int) (dw_and1 (dt_eq (b := true) hr.rm (de_ix (de_var 1) de_int) (de_call (ok_last_of T) (hr.mono (by decide)) tk T.g_last_of T.F_last_of.kp T.b_last_of (da_cons (de_var 0) da_nil))))))))) (dss_one (ds_ret de_bl)) dss_nil)
    (dss_one (ds_ret (de_eq hr.rm (de_eq hr.rm (de_ix (de_var 1) de_int) de_int) (de_eq hr.rm (de_ix (de_var 1) de_int) de_int)))))))
theorem ok_law_cell (T : Top K mg f_is_whole f_ten_to f_is_book f_last_of f_is_state f_law_cell f_law_mix f_law_ten f_law_book f_law_odd f_law_whole f_law_is_book f_law_is_state f_law fd_is_whole fd_ten_to fd_is_book fd_last_of fd_is_state fd_law_cell fd_law_mix fd_law_ten fd_law_book fd_law_odd fd_law_whole fd_law_is_book fd_law_is_state fd_law) : FnOk P w K mg base (L2N.CX P w) 1 f_law_cell fd_law_cell ["script", "k"] (spOf K ca 2 F_law_cell) := by
  refine fn_ok (k := 0) (g := g_law_cell) T.F_law_cell sc_law_cell fun cdv A outer s H E Φ hr tk po => ?_
  have nd := sc_law_cell.nd
  exact (dss_cons (ds_if (dt_lt (b := true) (de_var 1) (de_len T.m_len (de_var 0))) (dss_one (ds_ret (de_ix (de_var 0) (de_var 1)))) dss_nil)
    (dss_one (ds_ret de_int)))
theorem ok_law_mix (T : Top K mg f_is_whole f_ten_to f_is_book f_last_of f_is_state f_law_cell f_law_mix f_law_ten f_law_book f_law_odd f_law_whole f_law_is_book f_law_is_state f_law fd_is_whole fd_ten_to fd_is_book fd_last_of fd_is_state fd_law_cell fd_law_mix fd_law_ten fd_law_book fd_law_odd fd_law_whole fd_law_is_book fd_law_is_state fd_law) : FnOk P w K mg base (L2N.CX P w) 1 f_law_mix fd_law_mix ["cell", "prime", "many"] (spOf K ca 3 F_law_mix) := by
  refine fn_ok (k := 0) (g := g_law_mix) T.F_law_mix sc_law_mix fun cdv A outer s H E Φ hr tk po => ?_
  have nd := sc_law_mix.nd
  exact (dss_cons (ds_set (i := 3) (de_mod (de_mulR (de_var 0)) (de_var 1)) nd)
    (dss_one (ds_ret (de_mod (de_mod (de_mul (de_var 3) (de_add (de_var 3) de_int)) (de_var 1)) (de_var 2)))))
theorem ok_law_ten (T : Top K mg f_is_whole f_ten_to f_is_book f_last_of f_is_state f_law_cell f_law_mix f_law_ten f_law_book f_law_odd f_law_whole f_law_is_book f_law_is_state f_law fd_is_whole fd_ten_to fd_is_book fd_last_of fd_is_state fd_law_cell fd_law_mix fd_law_ten fd_law_book fd_law_odd fd_law_whole fd_law_is_book fd_law_is_state fd_law) : FnOk P w K mg base (L2N.CX P w) 1 f_law_ten fd_law_ten ["power"] (spOf K ca 1 F_law_ten) := by
  refine fn_ok (k := 0) (g := g_law_ten) T.F_law_ten sc_law_ten fun cdv A outer s H E Φ hr tk po => ?_
  have nd := sc_law_ten.nd
  exact (dss_cons (ds_set (i := 1) de_int nd)
    (dss_cons (ds_for po rfl (di_range1 T.m_range (de_var 0)) (dg_name (i := 2) nd) (show DSs _ _ _ _ _ g_law_ten_b0 from (dss_one (ds_set (i := 1) (de_mulR (de_var 1)) nd))))
    (dss_one (ds_ret (de_var 1)))))
theorem ok_law_book (T : Top K mg f_is_whole f_ten_to f_is_book f_last_of f_is_state f_law_cell f_law_mix f_law_ten f_law_book f_law_odd f_law_whole f_law_is_book f_law_is_state f_law fd_is_whole fd_ten_to fd_is_book fd_last_of fd_is_state fd_law_cell fd_law_mix fd_law_ten fd_law_book fd_law_odd fd_law_whole fd_law_is_book fd_law_is_state fd_law) : FnOk P w K mg base (L2N.CX P w) 2 f_law_book fd_law_book ["cell"] (spOf K ca 1 F_law_book) := by
  refine fn_ok (k := 1) (g := g_law_book) T.F_law_book sc_law_book fun cdv A outer s H E Φ hr tk po => ?_
  have nd := sc_law_book.nd
  exact (dss_cons (ds_set (i := 1) (de_ix (de_tup (da_cons de_int (da_cons de_int (da_cons de_int (da_cons de_int (da_cons de_int (da_cons de_int (da_cons de_int (da_cons (de_add de_int (de_call (ok_law_mix T) (hr.mono (by decide)) tk T.g_law_mix T.F_law_mix.kp T.b_law_mix (da_cons (de_var 0) (da_cons de_int (da_cons de_int da_nil))))) da_nil))))))))) (de_call (ok_law_mix T) (hr.mono (by decide)) tk T.g_law_mix T.F_law_mix.kp T.b_law_mix (da_cons (de_var 0) (da_cons de_int (da_cons de_int da_nil))))) nd)
    (dss_cons (ds_own (i := 2) (dl_lst (da_cons (de_call (ok_law_mix T) (hr.mono (by decide)) tk T.g_law_mix T.F_law_mix.kp T.b_law_mix (da_cons (de_var 0) (da_cons de_int (da_cons de_int da_nil)))) da_nil)) nd)
    (dss_cons (ds_for po rfl (di_range1 T.m_range (de_call (ok_law_mix T) (hr.mono (by decide)) tk T.g_law_mix T.F_law_mix.kp T.b_law_mix (da_cons (de_var 0) (da_cons de_int (da_cons de_int da_nil))))) (dg_name (i := 3) nd) (show DSs _ _ _ _ _ g_law_book_b0 from (dss_one (ds_app (i := 2) (de_add (de_add (de_up (de_ix (de_bor 2) (de_neg de_int))) de_int) (de_call (ok_law_mix T) (hr.mono (by decide)) tk T.g_law_mix T.F_law_mix.kp T.b_law_mix (da_cons (de_add (de_var 0) (de_mulL (de_var 3))) (da_cons de_int (da_cons de_int da_nil)))))))))
    (dss_frz 2 (dss_cons (ds_lc (i := 2) [("power", 6)] rfl nd (di_list (de_var 2)) rfl (fun _ _ _ _ _ => (dg_name (i := 6) nd)) (fun _ _ _ _ _ => (dts_one (dt_lt (b := true) (de_var 6) de_int))) (fun _ _ _ _ _ => (de_var 6)))
    (dss_cons (ds_set (i := 4) (de_sub (de_var 1) de_int) nd)
    (dss_frz 2 (dss_cons (ds_for po rfl (di_range2 T.m_range de_int (de_len T.m_len (de_var 2))) (dg_name (i := 3) nd) (show DSs _ _ _ _ _ g_law_book_b1 from (dss_frz 2 (dss_one (ds_set (i := 4) (de_min2 rfl T.m_min (de_var 4) (de_fdiv (de_var 1) (de_call (ok_law_ten T) (hr.mono (by decide)) tk T.g_law_ten T.F_law_ten.kp T.b_law_ten (da_cons (de_sub (de_ix (de_var 2) (de_var 3)) (de_ix (de_var 2) (de_sub (de_var 3) de_int))) da_nil)))) nd)))))
    (dss_cons (ds_set (i := 5) (de_if (dt_eq (b := true) hr.rm (de_call (ok_law_mix T) (hr.mono (by decide)) tk T.g_law_mix T.F_law_mix.kp T.b_law_mix (da_cons (de_var 0) (da_cons de_int (da_cons de_int da_nil)))) de_int) (de_var 4) (de_call (ok_law_mix T) (hr.mono (by decide)) tk T.g_law_mix T.F_law_mix.kp T.b_law_mix (da_cons (de_var 0) (da_cons de_int (da_cons (de_add (de_var 4) de_int) da_nil))))) nd)
    (dss_frz 2 (dss_one (ds_ret (de_tup (da_cons (de_var 1) (da_cons (de_var 5) (da_cons (de_tuple T.m_tuple (de_var 2)) (da_cons (de_ix (de_tup (da_cons de_int (da_cons de_int (da_cons de_int (da_cons de_int (da_cons de_int da_nil)))))) (de_call (ok_law_mix T) (hr.mono (by decide)) tk T.g_law_mix T.F_law_mix.kp T.b_law_mix (da_cons (de_var 0) (da_cons de_int (da_cons de_int da_nil))))) da_nil)))))))))))))))))
theorem okr_law_odd (T : Top K mg f_is_whole f_ten_to f_is_book f_last_of f_is_state f_law_cell f_law_mix f_law_ten f_law_book f_law_odd f_law_whole f_law_is_book f_law_is_state f_law fd_is_whole fd_ten_to fd_is_book fd_last_of fd_is_state fd_law_cell fd_law_mix fd_law_ten fd_law_book fd_law_odd fd_law_whole fd_law_is_book fd_law_is_state fd_law) : ∀ k : Nat, FnOk P w K mg base (L2N.CX P w) (k + 1) f_law_odd fd_law_odd ["thing", "cell"] (spOf K ca 2 (F_law_odd k))
  | 0 => fn_zero rfl
  | k + 1 => by
    have ih := okr_law_odd T k
    refine (fn_ok (k := k + 1) (ca := ca) T.F_law_odd sc_law_odd fun cdv A outer s H E Φ hr tk po => ?_).mono (by omega)
    have nd := sc_law_odd.nd
    exact (dss_cons (ds_if (dt_w (dw_and (dt_val (b := true) (de_isi T.m_isinstance T.m_tuple (by decide +kernel) (de_var 0))) (dw_and (dt_ne (b := true) hr.rm (de_var 0) (de_tup da_nil)) (dw_and1 (dt_gt (b := true) (de_call (ok_law_mix T) (hr.mono (by omega)) tk T.g_law_mix T.F_law_mix.kp T.b_law_mix (da_cons (de_var 1) (da_cons de_int (da_cons de_int da_nil)))) de_int))))) (dss_cons (ds_set (i := 2) (de_call (ok_law_mix T) (hr.mono (by omega)) tk T.g_law_mix T.F_law_mix.kp T.b_law_mix (da_cons (de_var 1) (da_cons de_int (da_cons (de_len T.m_len (de_var 0)) da_nil)))) nd)
    (dss_one (ds_ret (de_add (de_add (de_slice (de_var 0) dp_none (dp_some (de_var 2))) (de_tup (da_cons (de_call ih (hr.mono (by omega)) tk T.g_law_odd T.F_law_odd.kp T.b_law_odd (da_cons (de_ix (de_var 0) (de_var 2)) (da_cons (de_add (de_add (de_var 1) (de_mulL (de_var 2))) de_int) da_nil))) da_nil))) (de_slice (de_var 0) (dp_some (de_add (de_var 2) de_int)) dp_none))))) dss_nil)
    (dss_cons (ds_set (i := 3) (de_l (dl_lst (da_cons de_non (da_cons de_bl (da_cons de_bl (da_cons de_int (da_cons de_int (da_cons (de_neg de_int) (da_cons de_int (da_cons de_int (da_cons de_int (da_cons de_int (da_cons de_str (da_cons de_str (da_cons de_str (da_cons (de_tup da_nil) (da_cons (de_tup (da_cons de_str da_nil)) (da_cons (de_l (dl_lst (da_cons de_int da_nil))) da_nil)))))))))))))))))) nd)
    (dss_cons (ds_if (dt_val (b := true) (de_isi T.m_isinstance T.m_tuple (by decide +kernel) (de_var 0))) (dss_one (ds_set (i := 3) (de_add (de_var 3) (de_rep (de_l (dl_lst (da_cons (de_l (dl_list T.m_list (de_var 0))) (da_cons (de_add (de_var 0) (de_slice (de_var 0) (dp_some (de_neg de_int)) dp_none)) (da_cons (de_slice (de_var 0) dp_none (dp_some (de_neg de_int))) (da_cons (de_rev (de_var 0)) (da_cons (de_slice (de_var 0) (dp_some de_int) dp_none) (da_cons (de_tup (da_cons (de_var 0) da_nil)) da_nil)))))))) de_int)) nd)) (dss_one (ds_if (dt_val (b := true) (de_isi T.m_isinstance T.m_str (by decide +kernel) (de_var 0))) (dss_one ds_bad) (dss_one (ds_if (dt_val (b := true) (de_isi T.m_isinstance T.m_int (by decide +kernel) (de_var 0))) (dss_one (ds_set (i := 3) (de_add (de_var 3) (de_rep (de_l (dl_lst (da_cons (de_add (de_var 0) de_int) (da_cons (de_sub (de_var 0) de_int) (da_cons (de_sub de_int (de_var 0)) (da_cons (de_tup (da_cons (de_var 0) da_nil)) (da_cons (de_add (de_var 0) de_int) (da_cons (de_mulR (de_var 0)) da_nil)))))))) de_int)) nd)) dss_nil)))))
    (dss_one (ds_ret (de_ix (de_var 3) (de_call (ok_law_mix T) (hr.mono (by omega)) tk T.g_law_mix T.F_law_mix.kp T.b_law_mix (da_cons (de_var 1) (da_cons de_int (da_cons (de_len T.m_len (de_var 3)) da_nil))))))))))
theorem ok_law_odd (T : Top K mg f_is_whole f_ten_to f_is_book f_last_of f_is_state f_law_cell f_law_mix f_law_ten f_law_book f_law_odd f_law_whole f_law_is_book f_law_is_state f_law fd_is_whole fd_ten_to fd_is_book fd_last_of fd_is_state fd_law_cell fd_law_mix fd_law_ten fd_law_book fd_law_odd fd_law_whole fd_law_is_book fd_law_is_state fd_law) : FnOk P w K mg base (L2N.CX P w) 6 f_law_odd fd_law_odd ["thing", "cell"] (spOf K ca 2 (F_law_odd 4)) := (okr_law_odd T 4).mono (by decide)
theorem ok_law_whole (T : Top K mg f_is_whole f_ten_to f_is_book f_last_of f_is_state f_law_cell f_law_mix f_law_ten f_law_book f_law_odd f_law_whole f_law_is_book f_law_is_state f_law fd_is_whole fd_ten_to fd_is_book fd_last_of fd_is_state fd_law_cell fd_law_mix fd_law_ten fd_law_book fd_law_odd fd_law_whole fd_law_is_book fd_law_is_state fd_law) : FnOk P w K mg base (L2N.CX P w) 1 f_law_whole fd_law_whole ["thing", "low", "high"] (spOf K ca 3 F_law_whole) := by
  refine fn_ok (k := 0) (g := g_law_whole) T.F_law_whole sc_law_whole fun cdv A outer s H E Φ hr tk po => ?_
  have nd := sc_law_whole.nd
  exact (dss_one (ds_ret (de_and (de_isi T.m_isinstance T.m_int (by decide +kernel) (de_var 0)) (de_and (de_not (de_isi T.m_isinstance T.m_bool (by decide +kernel) (de_var 0))) (de_one (de_ch op_le op_le opd_le opd_le (de_var 1) (de_var 0) (de_var 2)))))))
theorem ok_law_is_book (T : Top K mg f_is_whole f_ten_to f_is_book f_last_of f_is_state f_law_cell f_law_mix f_law_ten f_law_book f_law_odd f_law_whole f_law_is_book f_law_is_state f_law fd_is_whole fd_ten_to fd_is_book fd_last_of fd_is_state fd_law_cell fd_law_mix fd_law_ten fd_law_book fd_law_odd fd_law_whole fd_law_is_book fd_law_is_state fd_law) : FnOk P w K mg base (L2N.CX P w) 2 f_law_is_book fd_law_is_book ["thing"] (spOf K ca 1 F_law_is_book) := by
  refine fn_ok (k := 1) (g := g_law_is_book) T.F_law_is_book sc_law_is_book fun cdv A outer s H E Φ hr tk po => ?_
  have nd := sc_law_is_book.nd
  exact (dss_cons (ds_if (dt_w (dw_or (dt_not (dt_val (b := true) (de_isi T.m_isinstance T.m_tuple (by decide +kernel) (de_var 0)))) (dw_or (dt_ne (b := true) hr.rm (de_len T.m_len (de_var 0)) de_int) (dw_or1 (dt_not (dt_val (b := true) (de_call (ok_law_whole T) (hr.mono (by decide)) tk T.g_law_whole T.F_law_whole.kp T.b_law_whole (da_cons (de_ix (de_var 0) de_int) (da_cons de_int (da_cons de_int da_nil)))))))))) (dss_one (ds_ret de_bl)) dss_nil)
    (dss_cons (ds_if (dt_w (dw_or (dt_not (dt_val (b := true) (de_call (ok_law_whole T) (hr.mono (by decide)) tk T.g_law_whole T.F_law_whole.kp T.b_law_whole (da_cons (de_ix (de_var 0) de_int) (da_cons de_int (da_cons (de_sub (de_ix (de_var 0) de_int) de_int) da_nil)))))) (dw_or1 (dt_not (dt_val (b := true) (de_call (ok_law_whole T) (hr.mono (by decide)) tk T.g_law_whole T.F_law_whole.kp T.b_law_whole (da_cons (de_ix (de_var 0) de_int) (da_cons de_int (da_cons de_int da_nil))))))))) (dss_one (ds_ret de_bl)) dss_nil)
    (dss_cons (ds_set (i := 1) (de_ix (de_var 0) de_int) nd)
    (dss_cons (ds_if (dt_w (dw_or (dt_not (dt_val (b := true) (de_isi T.m_isinstance T.m_tuple (by decide +kernel) (de_var 1)))) (dw_or1 (dt_not (dt_ch (b := true) op_lt op_lt opd_lt opd_lt de_int (de_len T.m_len (de_var 1)) de_int))))) (dss_one (ds_ret de_bl)) dss_nil)
    (dss_cons (ds_if (dt_ne (b := true) hr.rm (de_l (dl_lc [("one", 3)] rfl nd (di_seq (de_var 1)) rfl (fun _ _ _ _ _ => (dg_name (i := 3) nd)) (fun _ _ _ _ _ => (dts_one (dt_not (dt_val (b := true) (de_call (ok_law_whole T) (hr.mono (by decide)) takesN T.g_law_whole T.F_law_whole.kp T.b_law_whole (da_cons (de_var 3) (da_cons de_int (da_cons de_int da_nil)))))))) (fun _ _ _ _ _ => (de_var 3)))) (de_l (dl_lst da_nil))) (dss_one (ds_ret de_bl)) dss_nil)
    (dss_cons (ds_for po rfl (di_range1 T.m_range (de_sub (de_len T.m_len (de_var 1)) de_int)) (dg_name (i := 2) nd) (show DSs _ _ _ _ _ g_law_is_book_b0 from (dss_one (ds_if (dt_w (dw_or (dt_ge (b := true) (de_ix (de_var 1) (de_var 2)) (de_ix (de_var 1) (de_add (de_var 2) de_int))) (dw_or1 (dt_gt (b := true) (de_mul (de_ix (de_var 0) de_int) (de_call (ok_law_ten T) (hr.mono (by decide)) tk T.g_law_ten T.F_law_ten.kp T.b_law_ten (da_cons (de_sub (de_ix (de_var 1) (de_add (de_var 2) de_int)) (de_ix (de_var 1) (de_var 2))) da_nil))) (de_ix (de_var 0) de_int))))) (dss_one (ds_ret de_bl)) dss_nil))))
    (dss_one (ds_ret de_bl))))))))
theorem ok_law_is_state (T : Top K mg f_is_whole f_ten_to f_is_book f_last_of f_is_state f_law_cell f_law_mix f_law_ten f_law_book f_law_odd f_law_whole f_law_is_book f_law_is_state f_law fd_is_whole fd_ten_to fd_is_book fd_last_of fd_is_state fd_law_cell fd_law_mix fd_law_ten fd_law_book fd_law_odd fd_law_whole fd_law_is_book fd_law_is_state fd_law) : FnOk P w K mg base (L2N.CX P w) 2 f_law_is_state fd_law_is_state ["book", "thing"] (spOf K ca 2 F_law_is_state) := by
  refine fn_ok (k := 1) (g := g_law_is_state) T.F_law_is_state sc_law_is_state fun cdv A outer s H E Φ hr tk po => ?_
  have nd := sc_law_is_state.nd
  exact (dss_cons (ds_if (dt_w (dw_or (dt_not (dt_val (b := true) (de_isi T.m_isinstance T.m_tuple (by decide +kernel) (de_var 1)))) (dw_or (dt_ne (b := true) hr.rm (de_len T.m_len (de_var 1)) de_int) (dw_or1 (dt_not (dt_val (b := true) (de_call (ok_law_whole T) (hr.mono (by decide)) tk T.g_law_whole T.F_law_whole.kp T.b_law_whole (da_cons (de_ix (de_var 1) de_int) (da_cons de_int (da_cons (de_sub (de_len T.m_len (de_ix (de_var 0) de_int)) de_int) da_nil)))))))))) (dss_one (ds_ret de_bl)) dss_nil)
    (dss_cons (ds_if (dt_w (dw_or (dt_not (dt_val (b := true) (de_call (ok_law_whole T) (hr.mono (by decide)) tk T.g_law_whole T.F_law_whole.kp T.b_law_whole (da_cons (de_ix (de_var 1) de_int) (da_cons (de_neg de_int) (da_cons de_int da_nil)))))) (dw_or1 (dt_not (dt_val (b := true) (de_call (ok_law_whole T) (hr.mono (by decide)) tk T.g_law_whole T.F_law_whole.kp T.b_law_whole (da_cons (de_ix (de_var 1) de_int) (da_cons de_int (da_cons (de_ix (de_var 0) de_int) da_nil))))))))) (dss_one (ds_ret de_bl)) dss_nil)
    (dss_cons (ds_if (dt_w (dw_or (dt_w (dw_and (dt_eq (b := true) hr.rm (de_ix (de_var 1) de_int) (de_neg de_int)) (dw_and1 (dt_eq (b := true) hr.rm (de_ix (de_var 1) de_int) de_int)))) (dw_or1 (dt_w (dw_and (dt_eq (b := true) hr.rm (de_ix (de_var 1) de_int) de_int) (dw_and1 (dt_eq (b := true) hr.rm (de_ix (de_var 1) de_int) (de_sub (de_len T.m_len (de_ix (de_var 0) de_int)) de_int)))))))) (dss_one (ds_ret de_bl)) dss_nil)
    (dss_one (ds_ret (de_eq hr.rm (de_eq hr.rm (de_ix (de_var 1) de_int) de_int) (de_eq hr.rm (de_ix (de_var 1) de_int) de_int)))))))
theorem ok_law (T : Top K mg f_is_whole f_ten_to f_is_book f_last_of f_is_state f_law_cell f_law_mix f_law_ten f_law_book f_law_odd f_law_whole f_law_is_book f_law_is_state f_law fd_is_whole fd_ten_to fd_is_book fd_last_of fd_is_state fd_law_cell fd_law_mix fd_law_ten fd_law_book fd_law_odd fd_law_whole fd_law_is_book fd_law_is_state fd_law) : FnOk P w K mg base (L2N.CX P w) 7 f_law fd_law ["script"] (spOf K ca 1 F_law) := by
  refine fn_ok (k := 6) (g := g_law) T.F_law sc_law fun cdv A outer s H E Φ hr tk po => ?_
  have nd := sc_law.nd
  exact (dss_cons (ds_for po rfl (di_range1 T.m_range de_int) (dg_name (i := 1) nd) (show DSs _ _ _ _ _ g_law_b3 from (dss_cons (ds_set (i := 2) (de_add (de_call (ok_law_cell T) (hr.mono (by decide)) tk T.g_law_cell T.F_law_cell.kp T.b_law_cell (da_cons (de_var 0) (da_cons (de_modC (de_var 1)) da_nil))) (de_mulL (de_var 1))) nd)
    (dss_cons (ds_set (i := 3) (de_call (ok_law_book T) (hr.mono (by decide)) tk T.g_law_book T.F_law_book.kp T.b_law_book (da_cons (de_var 2) da_nil)) nd)
    (dss_cons (ds_asg (de_var 3) (dg_tup rfl (dgs_cons (dg_name (i := 4) nd) (dgs_cons (dg_name (i := 5) nd) (dgs_cons (dg_name (i := 6) nd) (dgs_cons (dg_name (i := 7) nd) dgs_nil))))))
    (dss_cons (ds_own (i := 8) (dl_lst (da_cons (de_var 3) (da_cons (de_l (dl_list T.m_list (de_var 3))) (da_cons (de_slice (de_var 3) dp_none (dp_some de_int)) (da_cons de_non da_nil))))) nd)
    (dss_frz 8 (dss_cons (ds_own (i := 8) (dl_add (de_var 8) (de_l (dl_lst (da_cons (de_tup da_nil) (da_cons (de_tup (da_cons (de_var 4) (da_cons (de_add (de_var 5) de_int) (da_cons (de_var 6) (da_cons (de_var 7) da_nil))))) (da_cons (de_tup (da_cons (de_var 4) (da_cons (de_var 4) (da_cons (de_var 6) (da_cons (de_var 7) da_nil))))) (da_cons (de_tup (da_cons (de_var 4) (da_cons (de_neg de_int) (da_cons (de_var 6) (da_cons (de_var 7) da_nil))))) da_nil))))))) nd)
    (dss_frz 8 (dss_cons (ds_own (i := 8) (dl_add (de_var 8) (de_l (dl_lst (da_cons (de_tup (da_cons (de_var 4) (da_cons de_int (da_cons (de_tup (da_cons de_int (da_cons de_int (da_cons de_int (da_cons de_int (da_cons de_int (da_cons de_int da_nil))))))) (da_cons (de_var 7) da_nil))))) (da_cons (de_tup (da_cons (de_var 4) (da_cons de_int (da_cons (de_tup (da_cons de_int (da_cons de_int (da_cons de_int (da_cons de_int (da_cons de_int (da_cons de_int (da_cons de_int da_nil)))))))) (da_cons (de_var 7) da_nil))))) da_nil))))) nd)
    (dss_frz 8 (dss_cons (ds_own (i := 8) (dl_add (de_var 8) (de_l (dl_lst (da_cons (de_tup (da_cons de_int (da_cons de_int (da_cons (de_tup (da_cons de_int da_nil)) (da_cons de_int da_nil))))) (da_cons (de_tup (da_cons de_int (da_cons de_int (da_cons (de_tup (da_cons de_int da_nil)) (da_cons de_int da_nil))))) da_nil))))) nd)
    (dss_frz 8 (dss_cons (ds_own (i := 8) (dl_add (de_var 8) (de_l (dl_lst (da_cons (de_tup (da_cons (de_var 4) (da_cons de_int (da_cons (de_tup (da_cons de_int da_nil)) (da_cons de_int da_nil))))) (da_cons (de_tup (da_cons (de_var 4) (da_cons de_int (da_cons (de_tup (da_cons de_int da_nil)) (da_cons de_int da_nil))))) (da_cons (de_tup (da_cons (de_var 4) (da_cons de_int (da_cons (de_tup (da_cons de_int da_nil)) (da_cons de_int da_nil))))) da_nil)))))) nd)
    (dss_frz 8 (dss_cons (ds_own (i := 8) (dl_add (de_var 8) (de_l (dl_lst (da_cons (de_tup (da_cons (de_var 4) (da_cons de_int (da_cons (de_tup (da_cons de_int (da_cons de_int da_nil))) (da_cons de_int da_nil))))) (da_cons (de_tup (da_cons (de_var 4) (da_cons de_int (da_cons (de_tup da_nil) (da_cons de_int da_nil))))) da_nil))))) nd)
    (dss_cons (ds_set (i := 9) (de_tup (da_cons (de_call (ok_law_mix T) (hr.mono (by decide)) tk T.g_law_mix T.F_law_mix.kp T.b_law_mix (da_cons (de_var 2) (da_cons de_int (da_cons (de_len T.m_len (de_var 6)) da_nil)))) (da_cons (de_sub (de_call (ok_law_mix T) (hr.mono (by decide)) tk T.g_law_mix T.F_law_mix.kp T.b_law_mix (da_cons (de_var 2) (da_cons de_int (da_cons de_int da_nil)))) de_int) (da_cons (de_call (ok_law_mix T) (hr.mono (by decide)) tk T.g_law_mix T.F_law_mix.kp T.b_law_mix (da_cons (de_var 2) (da_cons de_int (da_cons (de_add (de_var 7) de_int) da_nil)))) da_nil)))) nd)
    (dss_cons (ds_own (i := 10) (dl_lst (da_cons (de_var 9) (da_cons (de_tup (da_cons de_int (da_cons de_int (da_cons de_int da_nil)))) (da_cons (de_tup (da_cons de_int (da_cons (de_neg de_int) (da_cons de_int da_nil)))) (da_cons (de_tup (da_cons (de_sub (de_len T.m_len (de_var 6)) de_int) (da_cons de_int (da_cons de_int da_nil)))) da_nil))))) nd)
    (dss_frz 10 (dss_cons (ds_own (i := 10) (dl_add (de_var 10) (de_l (dl_lst (da_cons (de_tup (da_cons (de_len T.m_len (de_var 6)) (da_cons de_int (da_cons de_int da_nil)))) (da_cons (de_tup (da_cons de_int (da_cons de_int (da_cons de_int da_nil)))) (da_cons (de_tup (da_cons de_int (da_cons de_int (da_cons de_int da_nil)))) (da_cons (de_l (dl_lst (da_cons de_int (da_cons de_int (da_cons de_int da_nil))))) da_nil))))))) nd)
    (dss_cons (ds_for po rfl (di_range1 T.m_range de_int) (dg_name (i := 11) nd) (show DSs _ _ _ _ _ g_law_b0 from (dss_cons (ds_set (i := 12) (de_add (de_add (de_call (ok_law_cell T) (hr.mono (by decide)) tk T.g_law_cell T.F_law_cell.kp T.b_law_cell (da_cons (de_var 0) (da_cons de_int da_nil))) (de_mulL (de_var 11))) (de_mulL (de_var 1))) nd)
    (dss_cons (ds_app (i := 8) (de_call (ok_law_odd T) (hr.mono (by decide)) tk T.g_law_odd T.F_law_odd.kp T.b_law_odd (da_cons (de_var 3) (da_cons (de_var 12) da_nil))))
    (dss_one (ds_app (i := 10) (de_call (ok_law_odd T) (hr.mono (by decide)) tk T.g_law_odd T.F_law_odd.kp T.b_law_odd (da_cons (de_var 9) (da_cons (de_var 12) da_nil)))))))))
    (dss_frz 8 (dss_cons (ds_for po rfl (di_list (de_var 8)) (dg_name (i := 13) nd) (show DSs _ _ _ _ _ g_law_b1 from (dss_cons (ds_par2 (i := 14) (j := 15) rfl nd (dm_val (de_call (ok_is_book T) (hr.mono (by decide)) tk T.g_is_book T.F_is_book.kp T.b_is_book (da_cons (de_var 13) da_nil))) (dm_val (de_call (ok_law_is_book T) (hr.mono (by decide)) tk T.g_law_is_book T.F_law_is_book.kp T.b_law_is_book (da_cons (de_var 13) da_nil))))
    (dss_one (ds_if (dt_w (dw_or (dt_w (dw_and (dt_notB (b := true) (de_var 14) de_bl) (dw_and1 (dt_val (b := true) (de_var 15))))) (dw_or1 (dt_w (dw_and (dt_notB (b := true) (de_var 14) de_bl) (dw_and1 (dt_not (dt_val (b := true) (de_var 15))))))))) (dss_one (ds_ret de_bl)) dss_nil)))))
    (dss_frz 10 (dss_one (ds_for po rfl (di_list (de_var 10)) (dg_name (i := 13) nd) (show DSs _ _ _ _ _ g_law_b2 from (dss_cons (ds_par2 (i := 14) (j := 15) rfl nd (dm_val (de_call (ok_is_state T) (hr.mono (by decide)) tk T.g_is_state T.F_is_state.kp T.b_is_state (da_cons (de_var 3) (da_cons (de_var 13) da_nil)))) (dm_val (de_call (ok_law_is_state T) (hr.mono (by decide)) tk T.g_law_is_state T.F_law_is_state.kp T.b_law_is_state (da_cons (de_var 3) (da_cons (de_var 13) da_nil)))))
    (dss_one (ds_if (dt_w (dw_or (dt_w (dw_and (dt_notB (b := true) (de_var 14) de_bl) (dw_and1 (dt_val (b := true) (de_var 15))))) (dw_or1 (dt_w (dw_and (dt_notB (b := true) (de_var 14) de_bl) (dw_and1 (dt_not (dt_val (b := true) (de_var 15))))))))) (dss_one (ds_ret de_bl)) dss_nil))))))))))))))))))))))))))))))
    (dss_cons (ds_if (dt_w (dw_or (dt_notB (b := true) (de_call (ok_is_book T) (hr.mono (by decide)) tk T.g_is_book T.F_is_book.kp T.b_is_book (da_cons (de_tup (da_cons de_int (da_cons de_int (da_cons (de_tup (da_cons de_int (da_cons de_int da_nil))) (da_cons de_int da_nil))))) da_nil)) de_bl) (dw_or1 (dt_notB (b := true) (de_call (ok_is_book T) (hr.mono (by decide)) tk T.g_is_book T.F_is_book.kp T.b_is_book (da_cons (de_tup (da_cons de_int (da_cons de_int (da_cons (de_tup (da_cons de_int (da_cons de_int da_nil))) (da_cons de_int da_nil))))) da_nil)) de_bl)))) (dss_one (ds_ret de_bl)) dss_nil)
    (dss_one (ds_ret (de_and (de_isB (de_call (ok_is_book T) (hr.mono (by decide)) tk T.g_is_book T.F_is_book.kp T.b_is_book (da_cons (de_tup (da_cons de_int (da_cons de_int (da_cons (de_tup (da_cons de_int (da_cons de_int da_nil))) (da_cons de_int da_nil))))) da_nil)) de_bl) (de_one (de_isB (de_call (ok_is_book T) (hr.mono (by decide)) tk T.g_is_book T.F_is_book.kp T.b_is_book (da_cons (de_tup (da_cons de_int (da_cons de_int (da_cons (de_tup (da_cons de_int (da_cons de_int da_nil))) (da_cons de_int da_nil))))) da_nil)) de_bl)))))))
end
end Law
set_option Elab.async false
set_option linter.all false
set_option maxRecDepth 100000
set_option maxHeartbeats 4000000
namespace Law
open PySem PySem.Spec PyProof.Rows L2 G
theorem all_mk {w : World} {K : PySem.W.Frag} {h : Heap} {mg : Str → Option Value} {fa : Addr} (X : K.In h) (G : h.Ns mainGlobals mg) (hfa : mg "law" = some (.ref fa))
    {od1 an1 : Option Addr} {sl1 : Array (Option Value)} {oc1 kV1 dc1 pm1 cd1 ct1 : Value} {f1 : Addr}
    (a1 : PySem.W.nsIn K mainGlobals "is_whole" = some (some (.ref f1))) (l1 : K.lookup f1 = some ⟨oc1, od1, .func (PySem.W.fnOf "is_whole" "is_whole" (defArgs s_is_whole) (defBody s_is_whole) (defScope s_is_whole) .none kV1 dc1 pm1 an1 cd1 ct1), sl1⟩) (c1 : PySem.W.codeIn K cd1 "is_whole" = true) (k1 : PySem.W.keepIn K (.ref f1) = true)
    {od2 an2 : Option Addr} {sl2 : Array (Option Value)} {oc2 kV2 dc2 pm2 cd2 ct2 : Value} {f2 : Addr}
    (a2 : PySem.W.nsIn K mainGlobals "ten_to" = some (some (.ref f2))) (l2 : K.lookup f2 = some ⟨oc2, od2, .func (PySem.W.fnOf "ten_to" "ten_to" (defArgs s_ten_to) (defBody s_ten_to) (defScope s_ten_to) .none kV2 dc2 pm2 an2 cd2 ct2), sl2⟩) (c2 : PySem.W.codeIn K cd2 "ten_to" = true) (k2 : PySem.W.keepIn K (.ref f2) = true)
    {od3 an3 : Option Addr} {sl3 : Array (Option Value)} {oc3 kV3 dc3 pm3 cd3 ct3 : Value} {f3 : Addr}
    (a3 : PySem.W.nsIn K mainGlobals "is_book" = some (some (.ref f3))) (l3 : K.lookup f3 = some ⟨oc3, od3, .func (PySem.W.fnOf "is_book" "is_book" (defArgs s_is_book) (defBody s_is_book) (defScope s_is_book) .none kV3 dc3 pm3 an3 cd3 ct3), sl3⟩) (c3 : PySem.W.codeIn K cd3 "is_book" = true) (k3 : PySem.W.keepIn K (.ref f3) = true)
    {od4 an4 : Option Addr} {sl4 : Array (Option Value)} {oc4 kV4 dc4 pm4 cd4 ct4 : Value} {f4 : Addr}
    (a4 : PySem.W.nsIn K mainGlobals "last_of" = some (some (.ref f4))) (l4 : K.lookup f4 = some ⟨oc4, od4, .func (PySem.W.fnOf "last_of" "last_of" (defArgs s_last_of) (defBody s_last_of) (defScope s_last_of) .none kV4 dc4 pm4 an4 cd4 ct4), sl4⟩) (c4 : PySem.W.codeIn K cd4 "last_of" = true) (k4 : PySem.W.keepIn K (.ref f4) = true)
    {od5 an5 : Option Addr} {sl5 : Array (Option Value)} {oc5 kV5 dc5 pm5 cd5 ct5 : Value} {f5 : Addr}
    (a5 : PySem.W.nsIn K mainGlobals "is_state" = some (some (.ref f5))) (l5 : K.lookup f5 = some ⟨oc5, od5, .func (PySem.W.fnOf "is_state" "is_state" (defArgs s_is_state) (defBody s_is_state) (defScope s_is_state) .none kV5 dc5 pm5 an5 cd5 ct5), sl5⟩) (c5 : PySem.W.codeIn K cd5 "is_state" = true) (k5 : PySem.W.keepIn K (.ref f5) = true)
    {od6 an6 : Option Addr} {sl6 : Array (Option Value)} {oc6 kV6 dc6 pm6 cd6 ct6 : Value} {f6 : Addr}
    (a6 : PySem.W.nsIn K mainGlobals "_law_cell" = some (some (.ref f6))) (l6 : K.lookup f6 = some ⟨oc6, od6, .func (PySem.W.fnOf "_law_cell" "_law_cell" (defArgs s_law_cell) (defBody s_law_cell) (defScope s_law_cell) .none kV6 dc6 pm6 an6 cd6 ct6), sl6⟩) (c6 : PySem.W.codeIn K cd6 "_law_cell" = true) (k6 : PySem.W.keepIn K (.ref f6) = true)
    {od7 an7 : Option Addr} {sl7 : Array (Option Value)} {oc7 kV7 dc7 pm7 cd7 ct7 : Value} {f7 : Addr}
    (a7 : PySem.W.nsIn K mainGlobals "_law_mix" = some (some (.ref f7))) (l7 : K.lookup f7 = some ⟨oc7, od7, .func (PySem.W.fnOf "_law_mix" "_law_mix" (defArgs s_law_mix) (defBody s_law_mix) (defScope s_law_mix) .none kV7 dc7 pm7 an7 cd7 ct7), sl7⟩) (c7 : PySem.W.codeIn K cd7 "_law_mix" = true) (k7 : PySem.W.keepIn K (.ref f7) = true)
    {od8 an8 : Option Addr} {sl8 : Array (Option Value)} {oc8 kV8 dc8 pm8 cd8 ct8 : Value} {f8 : Addr}
    (a8 : PySem.W.nsIn K mainGlobals "_law_ten" = some (some (.ref f8))) (l8 : K.lookup f8 = some ⟨oc8, od8, .func (PySem.W.fnOf "_law_ten" "_law_ten" (defArgs s_law_ten) (defBody s_law_ten) (defScope s_law_ten) .none kV8 dc8 pm8 an8 cd8 ct8), sl8⟩) (c8 : PySem.W.codeIn K cd8 "_law_ten" = true) (k8 : PySem.W.keepIn K (.ref f8) = true)
    {od9 an9 : Option Addr} {sl9 : Array (Option Value)} {oc9 kV9 dc9 pm9 cd9 ct9 : Value} {f9 : Addr}
    (a9 : PySem.W.nsIn K mainGlobals "_law_book" = some (some (.ref f9))) (l9 : K.lookup f9 = some ⟨oc9, od9, .func (PySem.W.fnOf "_law_book" "_law_book" (defArgs s_law_book) (defBody s_law_book) (defScope s_law_book) .none kV9 dc9 pm9 an9 cd9 ct9), sl9⟩) (c9 : PySem.W.codeIn K cd9 "_law_book" = true) (k9 : PySem.W.keepIn K (.ref f9) = true)
    {od10 an10 : Option Addr} {sl10 : Array (Option Value)} {oc10 kV10 dc10 pm10 cd10 ct10 : Value} {f10 : Addr}
    (a10 : PySem.W.nsIn K mainGlobals "_law_odd" = some (some (.ref f10))) (l10 : K.lookup f10 = some ⟨oc10, od10, .func (PySem.W.fnOf "_law_odd" "_law_odd" (defArgs s_law_odd) (defBody s_law_odd) (defScope s_law_odd) .none kV10 dc10 pm10 an10 cd10 ct10), sl10⟩) (c10 : PySem.W.codeIn K cd10 "_law_odd" = true) (k10 : PySem.W.keepIn K (.ref f10) = true)
    {od11 an11 : Option Addr} {sl11 : Array (Option Value)} {oc11 kV11 dc11 pm11 cd11 ct11 : Value} {f11 : Addr}
    (a11 : PySem.W.nsIn K mainGlobals "_law_whole" = some (some (.ref f11))) (l11 : K.lookup f11 = some ⟨oc11, od11, .func (PySem.W.fnOf "_law_whole" "_law_whole" (defArgs s_law_whole) (defBody s_law_whole) (defScope s_law_whole) .none kV11 dc11 pm11 an11 cd11 ct11), sl11⟩) (c11 : PySem.W.codeIn K cd11 "_law_whole" = true) (k11 : PySem.W.keepIn K (.ref f11) = true)
    {od12 an12 : Option Addr} {sl12 : Array (Option Value)} {oc12 kV12 dc12 pm12 cd12 ct12 : Value} {f12 : Addr}
    (a12 : PySem.W.nsIn K mainGlobals "_law_is_book" = some (some (.ref f12))) (l12 : K.lookup f12 = some ⟨oc12, od12, .func (PySem.W.fnOf "_law_is_book" "_law_is_book" (defArgs s_law_is_book) (defBody s_law_is_book) (defScope s_law_is_book) .none kV12 dc12 pm12 an12 cd12 ct12), sl12⟩) (c12 : PySem.W.codeIn K cd12 "_law_is_book" = true) (k12 : PySem.W.keepIn K (.ref f12) = true)
    {od13 an13 : Option Addr} {sl13 : Array (Option Value)} {oc13 kV13 dc13 pm13 cd13 ct13 : Value} {f13 : Addr}
    (a13 : PySem.W.nsIn K mainGlobals "_law_is_state" = some (some (.ref f13))) (l13 : K.lookup f13 = some ⟨oc13, od13, .func (PySem.W.fnOf "_law_is_state" "_law_is_state" (defArgs s_law_is_state) (defBody s_law_is_state) (defScope s_law_is_state) .none kV13 dc13 pm13 an13 cd13 ct13), sl13⟩) (c13 : PySem.W.codeIn K cd13 "_law_is_state" = true) (k13 : PySem.W.keepIn K (.ref f13) = true)
    {od14 an14 : Option Addr} {sl14 : Array (Option Value)} {oc14 kV14 dc14 pm14 cd14 ct14 : Value} {f14 : Addr}
    (a14 : PySem.W.nsIn K mainGlobals "law" = some (some (.ref f14))) (l14 : K.lookup f14 = some ⟨oc14, od14, .func (PySem.W.fnOf "law" "law" (defArgs s_law) (defBody s_law) (defScope s_law) .none kV14 dc14 pm14 an14 cd14 ct14), sl14⟩) (c14 : PySem.W.codeIn K cd14 "law" = true) (k14 : PySem.W.keepIn K (.ref f14) = true)
    (z_all : PySem.W.nsIn K mainGlobals "all" = some none)
    (z_bool : PySem.W.nsIn K mainGlobals "bool" = some none)
    (z_int : PySem.W.nsIn K mainGlobals "int" = some none)
    (z_isinstance : PySem.W.nsIn K mainGlobals "isinstance" = some none)
    (z_len : PySem.W.nsIn K mainGlobals "len" = some none)
    (z_list : PySem.W.nsIn K mainGlobals "list" = some none)
    (z_min : PySem.W.nsIn K mainGlobals "min" = some none)
    (z_range : PySem.W.nsIn K mainGlobals "range" = some none)
    (z_str : PySem.W.nsIn K mainGlobals "str" = some none)
    (z_tuple : PySem.W.nsIn K mainGlobals "tuple" = some none)
    {tc_LEAST_FULL : Tok} (y_LEAST_FULL : PySem.W.nsIn K mainGlobals "LEAST_FULL" = some (some (.int 9 tc_LEAST_FULL)))
    {tc_MOST_FULL : Tok} (y_MOST_FULL : PySem.W.nsIn K mainGlobals "MOST_FULL" = some (some (.int 9999 tc_MOST_FULL)))
    {tc_MOST_POWER : Tok} (y_MOST_POWER : PySem.W.nsIn K mainGlobals "MOST_POWER" = some (some (.int 14 tc_MOST_POWER)))
    {tc_MOST_RANGES : Tok} (y_MOST_RANGES : PySem.W.nsIn K mainGlobals "MOST_RANGES" = some (some (.int 6 tc_MOST_RANGES)))
    {tc_MOST_WAIT : Tok} (y_MOST_WAIT : PySem.W.nsIn K mainGlobals "MOST_WAIT" = some (some (.int 5 tc_MOST_WAIT)))
    : ∃ fd : FuncData, (∀ (s : Shared) (v : Value), BindsTo s fd ⟨[v], []⟩ [("script", v)]) ∧ ∀ base : Heap, K.In base → base.Ns mainGlobals mg → FnOk PySem.Challenge.rw_rangepicks_k01_books.prog w K mg base (L2N.CX PySem.Challenge.rw_rangepicks_k01_books.prog w) 7 fa fd ["script"] (lawSp K 1 F_law) := by
  have e := hfa.symm.trans (PySem.W.mg_of X G a14)
  cases e
  have T := Top.mk (K := K) (mg := mg)
    (fun_mk (st := s_is_whole) l1 c1 k1)
    ((fun_mk (st := s_is_whole) l1 c1 k1).binds (ps := ["thing", "low", "high"]) fun _ _ _ _ _ _ us hl => match us, hl with | [_, _, _], _ => rfl)
    (PySem.W.mg_of X G a1)
    (fun_mk (st := s_ten_to) l2 c2 k2)
    ((fun_mk (st := s_ten_to) l2 c2 k2).binds (ps := ["power"]) fun _ _ _ _ _ _ us hl => match us, hl with | [_], _ => rfl)
    (PySem.W.mg_of X G a2)
    (fun_mk (st := s_is_book) l3 c3 k3)
    ((fun_mk (st := s_is_book) l3 c3 k3).binds (ps := ["thing"]) fun _ _ _ _ _ _ us hl => match us, hl with | [_], _ => rfl)
    (PySem.W.mg_of X G a3)
    (fun_mk (st := s_last_of) l4 c4 k4)
    ((fun_mk (st := s_last_of) l4 c4 k4).binds (ps := ["book"]) fun _ _ _ _ _ _ us hl => match us, hl with | [_], _ => rfl)
    (PySem.W.mg_of X G a4)
    (fun_mk (st := s_is_state) l5 c5 k5)
    ((fun_mk (st := s_is_state) l5 c5 k5).binds (ps := ["book", "thing"]) fun _ _ _ _ _ _ us hl => match us, hl with | [_, _], _ => rfl)
    (PySem.W.mg_of X G a5)
    (fun_mk (st := s_law_cell) l6 c6 k6)
    ((fun_mk (st := s_law_cell) l6 c6 k6).binds (ps := ["script", "k"]) fun _ _ _ _ _ _ us hl => match us, hl with | [_, _], _ => rfl)
    (PySem.W.mg_of X G a6)
    (fun_mk (st := s_law_mix) l7 c7 k7)
    ((fun_mk (st := s_law_mix) l7 c7 k7).binds (ps := ["cell", "prime", "many"]) fun _ _ _ _ _ _ us hl => match us, hl with | [_, _, _], _ => rfl)
    (PySem.W.mg_of X G a7)
    (fun_mk (st := s_law_ten) l8 c8 k8)
    ((fun_mk (st := s_law_ten) l8 c8 k8).binds (ps := ["power"]) fun _ _ _ _ _ _ us hl => match us, hl with | [_], _ => rfl)
    (PySem.W.mg_of X G a8)
    (fun_mk (st := s_law_book) l9 c9 k9)
    ((fun_mk (st := s_law_book) l9 c9 k9).binds (ps := ["cell"]) fun _ _ _ _ _ _ us hl => match us, hl with | [_], _ => rfl)
    (PySem.W.mg_of X G a9)
    (fun_mk (st := s_law_odd) l10 c10 k10)
    ((fun_mk (st := s_law_odd) l10 c10 k10).binds (ps := ["thing", "cell"]) fun _ _ _ _ _ _ us hl => match us, hl with | [_, _], _ => rfl)
    (PySem.W.mg_of X G a10)
    (fun_mk (st := s_law_whole) l11 c11 k11)
    ((fun_mk (st := s_law_whole) l11 c11 k11).binds (ps := ["thing", "low", "high"]) fun _ _ _ _ _ _ us hl => match us, hl with | [_, _, _], _ => rfl)
    (PySem.W.mg_of X G a11)
    (fun_mk (st := s_law_is_book) l12 c12 k12)
    ((fun_mk (st := s_law_is_book) l12 c12 k12).binds (ps := ["thing"]) fun _ _ _ _ _ _ us hl => match us, hl with | [_], _ => rfl)
    (PySem.W.mg_of X G a12)
    (fun_mk (st := s_law_is_state) l13 c13 k13)
    ((fun_mk (st := s_law_is_state) l13 c13 k13).binds (ps := ["book", "thing"]) fun _ _ _ _ _ _ us hl => match us, hl with | [_, _], _ => rfl)
    (PySem.W.mg_of X G a13)
    (fun_mk (st := s_law) l14 c14 k14)
    ((fun_mk (st := s_law) l14 c14 k14).binds (ps := ["script"]) fun _ _ _ _ _ _ us hl => match us, hl with | [_], _ => rfl)
    (PySem.W.mg_of X G a14)
    (PySem.W.mg_none_of X G z_all)
    (PySem.W.mg_none_of X G z_bool)
    (PySem.W.mg_none_of X G z_int)
    (PySem.W.mg_none_of X G z_isinstance)
    (PySem.W.mg_none_of X G z_len)
    (PySem.W.mg_none_of X G z_list)
    (PySem.W.mg_none_of X G z_min)
    (PySem.W.mg_none_of X G z_range)
    (PySem.W.mg_none_of X G z_str)
    (PySem.W.mg_none_of X G z_tuple)
    (⟨tc_LEAST_FULL, PySem.W.mg_of X G y_LEAST_FULL⟩)
    (⟨tc_MOST_FULL, PySem.W.mg_of X G y_MOST_FULL⟩)
    (⟨tc_MOST_POWER, PySem.W.mg_of X G y_MOST_POWER⟩)
    (⟨tc_MOST_RANGES, PySem.W.mg_of X G y_MOST_RANGES⟩)
    (⟨tc_MOST_WAIT, PySem.W.mg_of X G y_MOST_WAIT⟩)
  exact ⟨PySem.W.fnOf "law" "law" (defArgs s_law) (defBody s_law) (defScope s_law) .none kV14 dc14 pm14 an14 cd14 ct14, fun s v => .of_eq rfl, fun base _ _ => fn_law (ok_law T (ca := fun _ => 0))⟩
end Law
open PySem PySem.W PyProof.Rows
set_option maxHeartbeats 0 in
theorem PySem.Challenge.cw_rangepicks_k01_books_holds : PySem.Challenge.rw_rangepicks_k01_books.Holds := by
  w_on; o_law; k_head; (case hw => w_witness2)
  k_fill
  refine L2.walk_of (l := PySem.Challenge.rw_rangepicks_k01_books) (n := 63) (k := 7) (x := "script") (CX := fun w => L2N.CX PySem.Challenge.rw_rangepicks_k01_books.prog w) (sp := fun w => G.lawSp _ 1 Law.F_law) rfl (by decide) rfl ⟨rfl, by decide, by decide⟩ (fun w h Y => PySem.W.kIn_of Y) ?F (fun _ _ a ns hl _ hS => G.sp_lawL Law.law_true hl hS) (fun _ _ _ _ _ h => G.cx_no h)
  case F =>
    intro w mg fa h KX GG hmg
    refine' Law.all_mk KX GG hmg ?a1 ?l1 ?c1 ?k1 ?a2 ?l2 ?c2 ?k2 ?a3 ?l3 ?c3 ?k3 ?a4 ?l4 ?c4 ?k4 ?a5 ?l5 ?c5 ?k5 ?a6 ?l6 ?c6 ?k6 ?a7 ?l7 ?c7 ?k7 ?a8 ?l8 ?c8 ?k8 ?a9 ?l9 ?c9 ?k9 ?a10 ?l10 ?c10 ?k10 ?a11 ?l11 ?c11 ?k11 ?a12 ?l12 ?c12 ?k12 ?a13 ?l13 ?c13 ?k13 ?a14 ?l14 ?c14 ?k14 ?z_all ?z_bool ?z_int ?z_isinstance ?z_len ?z_list ?z_min ?z_range ?z_str ?z_tuple ?y_LEAST_FULL ?y_MOST_FULL ?y_MOST_POWER ?y_MOST_RANGES ?y_MOST_WAIT
    (case a1 => k_is); (case l1 => k_is); (case c1 => k_is); (case k1 => k_is); (case a2 => k_is); (case l2 => k_is); (case c2 => k_is); (case k2 => k_is); (case a3 => k_is); (case l3 => k_is); (case c3 => k_is); (case k3 => k_is); (case a4 => k_is); (case l4 => k_is); (case c4 => k_is); (case k4 => k_is); (case a5 => k_is); (case l5 => k_is); (case c5 => k_is); (case k5 => k_is); (case a6 => k_is); (case l6 => k_is); (case c6 => k_is); (case k6 => k_is); (case a7 => k_is); (case l7 => k_is); (case c7 => k_is); (case k7 => k_is); (case a8 => k_is); (case l8 => k_is); (case c8 => k_is); (case k8 => k_is); (case a9 => k_is); (case l9 => k_is); (case c9 => k_is); (case k9 => k_is); (case a10 => k_is); (case l10 => k_is); (case c10 => k_is); (case k10 => k_is); (case a11 => k_is); (case l11 => k_is); (case c11 => k_is); (case k11 => k_is); (case a12 => k_is); (case l12 => k_is); (case c12 => k_is); (case k12 => k_is); (case a13 => k_is); (case l13 => k_is); (case c13 => k_is); (case k13 => k_is); (case a14 => k_is); (case l14 => k_is); (case c14 => k_is); (case k14 => k_is); (case z_all => k_is); (case z_bool => k_is); (case z_int => k_is); (case z_isinstance => k_is); (case z_len => k_is); (case z_list => k_is); (case z_min => k_is); (case z_range => k_is); (case z_str => k_is); (case z_tuple => k_is); (case y_LEAST_FULL => k_is); (case y_MOST_FULL => k_is); (case y_MOST_POWER => k_is); (case y_MOST_RANGES => k_is); (case y_MOST_WAIT => k_is)
