import PyProof.Rows.All
import Wide.All
import OpenK.AllK
import Wide.FinOn
import HandS.ForMost
import HandS.ForExc
import HandS.CallSlots
import HandS.IsInst
import HandS.Style
import HandS.More
import KE.KSuper
import KE.KExcSuper
import HandS.ExcSuper
import HandS.ExcInit
import HandS.ExcField
import HandS.ExcIs
import KE.KExcIs
import KE.KSortKey
import KE.KSortTupG
import HandS.SortKw
import HandS.Spec
import HandS.Keys
import HandS.Iter
import PyProof.StrLawsIn
import PyProof.StrLawsTight
import PyProof.StrLawsChain
import PyProof.Rows.StrSplitCount
import PyProof.Rows.StrSplitJoin
import PyProof.Rows.StrSplitAre
import PyProof.Rows.RegReprOcc
import HandS.Text
import KE.RegKSuper
import KE.RegKIsAll
import PySem.Challenge.RW_anytruths_k86_formulas_parts_put
set_option Elab.async false
set_option linter.all false
set_option maxRecDepth 100000
set_option maxHeartbeats 2000000
/-! DL: a layer without a heap over the hand layer. Values are trees; what a def owns alone is told apart by its address. -/
namespace DL
open PySem L2
/-- a value as a tree -/
inductive D where
  | non | bl (b : Bool) | int (i : Int) | str (x : Str)
  | tup (ds : List D) | lst (ds : List D)
  | scr (ds : List D)
  | dct (kvs : List (Key × D))
  | obj (C : Addr) (fs : List (Str × D))
  | adr (v : V)
  | exc (a dd C : Addr) (fs : List (Str × D))
/-- a list of the written part -/
def Wr (K : PySem.W.Frag) (a : Addr) (xs : List V) : Prop :=
  ∃ (o : Obj) (its : Array Value) (n : Nat), K.lookup a = some o ∧ o.cls = .type "list" ∧ o.dict = none ∧ o.data = .seq its n ∧ its.size ≤ sizeLine ∧ Vals xs its.toList
section
variable (K : PySem.W.Frag) (M : Addr → Prop) (H : Hp)
mutual
def Rep : D → V → Prop
  | .non, v => v = .non
  | .bl b, v => v = .bl b
  | .int i, v => v = .int i
  | .str x, v => v = .str x
  | .adr u, v => v = u
  | .exc a dd _ fs, v => v = .ref a ∧ ∃ vs, H dd = some (.xd vs) ∧ RepF fs vs
  | .tup ds, v => ∃ a vs, v = .ref a ∧ SqT K H a vs ∧ Reps ds vs
  | .lst ds, v => ∃ a vs, v = .ref a ∧ ¬ M a ∧ H a = some (.lst vs) ∧ Reps ds vs
  | .scr ds, v => ∃ a vs, v = .ref a ∧ ((∃ o, H a = some (.frz o (.lst vs))) ∨ Wr K a vs) ∧ Reps ds vs
  | .dct kvs, v => ∃ a vs, v = .ref a ∧ ¬ M a ∧ Rd H a (.dK vs) ∧ RepK kvs vs
  | .obj C fs, v => ∃ a dx vs, v = .ref a ∧ ¬ M a ∧ H a = some (.ins C dx vs) ∧ RepF fs vs
def Reps : List D → List V → Prop
  | [], vs => vs = []
  | d :: ds, vs => ∃ v r, vs = v :: r ∧ Rep d v ∧ Reps ds r
def RepK : List (Key × D) → List (Key × V) → Prop
  | [], vs => vs = []
  | d :: ds, vs => ∃ v r, vs = v :: r ∧ RepKP d v ∧ RepK ds r
def RepKP : Key × D → Key × V → Prop
  | (k, d), v => v.1 = k ∧ Rep d v.2
def RepF : List (Str × D) → List (Str × V) → Prop
  | [], vs => vs = []
  | d :: ds, vs => ∃ v r, vs = v :: r ∧ RepFP d v ∧ RepF ds r
def RepFP : Str × D → Str × V → Prop
  | (k, d), v => v.1 = k ∧ Rep d v.2
end
end
/-- what may be owned -/
def MutO : HO → Prop
  | .lst _ => True
  | .dK _ => True
  | .ins _ _ _ => True
  | _ => False
/-- what is not owned stands, and what floats at fl; only what is new came to the owned -/
structure Later (fl : List Addr) (M : Addr → Prop) (H : Hp) (M' : Addr → Prop) (H' : Hp) : Prop where
  own : ∀ a, M' a → M a ∨ H a = none
  keep : ∀ a o, H a = some o → (¬ M a ∨ ¬ MutO o) → H' a = some o
  fix : ∀ a ∈ fl, H' a = H a
theorem Later.refl {fl : List Addr} {M : Addr → Prop} {H : Hp} : Later fl M H M H := ⟨fun _ h => .inl h, fun _ _ h _ => h, fun _ _ => rfl⟩
theorem Later.trans {fl : List Addr} {M M1 M2 : Addr → Prop} {H H1 H2 : Hp} (p : Later fl M H M1 H1) (q : Later fl M1 H1 M2 H2) : Later fl M H M2 H2 := by
  refine ⟨fun a h => ?_, fun a o h n => ?_, fun a h => (q.fix a h).trans (p.fix a h)⟩
  · rcases q.own a h with h | h
    · exact p.own a h
    · by_cases hm : M a
      · exact .inl hm
      · cases e : H a with
        | none => exact .inr rfl
        | some o =>
          have := p.keep a o e (.inl hm)
          rw [h] at this; cases this
  · have h1 := p.keep a o h n
    refine q.keep a o h1 ?_
    rcases n with n | n
    · refine .inl fun hm => ?_
      rcases p.own a hm with z | z
      · exact n z
      · rw [h] at z; cases z
    · exact .inr n
theorem Later.sub {fl fl' : List Addr} {M M' : Addr → Prop} {H H' : Hp} (p : Later fl M H M' H') (h : ∀ a ∈ fl', a ∈ fl) : Later fl' M H M' H' := ⟨p.own, p.keep, fun a q => p.fix a (h a q)⟩
theorem Later.nil {fl : List Addr} {M M' : Addr → Prop} {H H' : Hp} (p : Later fl M H M' H') : Later [] M H M' H' := p.sub fun _ z => nomatch z
theorem Later.less {fl : List Addr} {M M1 M2 : Addr → Prop} {H H1 : Hp} (p : Later fl M H M1 H1) (h : ∀ a, M2 a → M1 a) : Later fl M H M2 H1 := ⟨fun a x => p.own a (h a x), p.keep, p.fix⟩
theorem Later.rd {fl : List Addr} {M M' : Addr → Prop} {H H' : Hp} (p : Later fl M H M' H') {a : Addr} {u : HO} (h : Rd H a u) (n : ¬ M a ∨ ¬ MutO u) : Rd H' a u := by
  rcases h with h | ⟨o, h⟩
  · exact .inl (p.keep a _ h n)
  · exact .inr ⟨o, p.keep a _ h (.inr fun z => z)⟩
theorem Later.notM {fl : List Addr} {M M' : Addr → Prop} {H H' : Hp} (p : Later fl M H M' H') {a : Addr} {u : HO} (h : Rd H a u) (n : ¬ M a) : ¬ M' a := fun z => by
  rcases p.own a z with z | z
  · exact n z
  · rcases h with h | ⟨o, h⟩ <;> (rw [h] at z; cases z)
theorem Later.sqT {fl : List Addr} {K : PySem.W.Frag} {M M' : Addr → Prop} {H H' : Hp} (p : Later fl M H M' H') {a : Addr} {vs : List V} (h : SqT K H a vs) : SqT K H' a vs := by
  rcases h with h | h
  · exact .inl (p.rd h (.inr fun z => z))
  · exact .inr h
section
variable {fl : List Addr} {K : PySem.W.Frag} {M M' : Addr → Prop} {H H' : Hp}
mutual
theorem Rep.later (p : Later fl M H M' H') : ∀ {d : D} {v : V}, Rep K M H d v → Rep K M' H' d v
  | .non, _, h => h
  | .bl _, _, h => h
  | .int _, _, h => h
  | .str _, _, h => h
  | .adr _, _, h => h
  | .exc _ _ _ fs, _, ⟨e, vs, h, r⟩ => ⟨e, vs, p.keep _ _ h (.inr fun z => z), RepF.later p r⟩
  | .tup ds, _, ⟨a, vs, e, h, r⟩ => ⟨a, vs, e, p.sqT h, Reps.later p r⟩
  | .lst ds, _, ⟨a, vs, e, n, h, r⟩ => ⟨a, vs, e, p.notM (.inl h) n, p.keep _ _ h (.inl n), Reps.later p r⟩
  | .scr ds, _, ⟨a, vs, e, .inl ⟨o, h⟩, r⟩ => ⟨a, vs, e, .inl ⟨o, p.keep _ _ h (.inr fun z => z)⟩, Reps.later p r⟩
  | .scr ds, _, ⟨a, vs, e, .inr h, r⟩ => ⟨a, vs, e, .inr h, Reps.later p r⟩
  | .dct kvs, _, ⟨a, vs, e, n, h, r⟩ => ⟨a, vs, e, p.notM h n, p.rd h (.inl n), RepK.later p r⟩
  | .obj C fs, _, ⟨a, dx, vs, e, n, h, r⟩ => ⟨a, dx, vs, e, p.notM (.inl h) n, p.keep _ _ h (.inl n), RepF.later p r⟩
theorem Reps.later (p : Later fl M H M' H') : ∀ {ds : List D} {vs : List V}, Reps K M H ds vs → Reps K M' H' ds vs
  | [], _, h => h
  | _ :: _, _, ⟨v, r, e, h, t⟩ => ⟨v, r, e, Rep.later p h, Reps.later p t⟩
theorem RepK.later (p : Later fl M H M' H') : ∀ {ds : List (Key × D)} {vs : List (Key × V)}, RepK K M H ds vs → RepK K M' H' ds vs
  | [], _, h => h
  | _ :: _, _, ⟨v, r, e, h, t⟩ => ⟨v, r, e, RepKP.later p h, RepK.later p t⟩
theorem RepKP.later (p : Later fl M H M' H') : ∀ {d : Key × D} {v : Key × V}, RepKP K M H d v → RepKP K M' H' d v
  | (_, _), _, ⟨e, h⟩ => ⟨e, Rep.later p h⟩
theorem RepF.later (p : Later fl M H M' H') : ∀ {ds : List (Str × D)} {vs : List (Str × V)}, RepF K M H ds vs → RepF K M' H' ds vs
  | [], _, h => h
  | _ :: _, _, ⟨v, r, e, h, t⟩ => ⟨v, r, e, RepFP.later p h, RepF.later p t⟩
theorem RepFP.later (p : Later fl M H M' H') : ∀ {d : Str × D} {v : Str × V}, RepFP K M H d v → RepFP K M' H' d v
  | (_, _), _, ⟨e, h⟩ => ⟨e, Rep.later p h⟩
end
end
/-! ### lists of values -/
section
variable {K : PySem.W.Frag} {M : Addr → Prop} {H : Hp}
theorem Reps.length : ∀ {ds : List D} {vs : List V}, Reps K M H ds vs → ds.length = vs.length
  | [], _, h => by obtain rfl : _ = [] := h; rfl
  | _ :: _, _, ⟨v, r, e, _, t⟩ => by subst e; simp [Reps.length t]
theorem Reps.nil : Reps K M H [] [] := rfl
theorem Reps.cons {d : D} {ds : List D} {v : V} {vs : List V} (h : Rep K M H d v) (t : Reps K M H ds vs) : Reps K M H (d :: ds) (v :: vs) := ⟨v, vs, rfl, h, t⟩
theorem Reps.get : ∀ {ds : List D} {vs : List V} {i : Nat} {d : D}, Reps K M H ds vs → ds[i]? = some d → ∃ v, vs[i]? = some v ∧ Rep K M H d v
  | [], _, _, _, _, e => by simp at e
  | x :: ds, _, 0, d, ⟨v, r, e, h, t⟩, q => by
    subst e
    have q' : x = d := by simpa using q
    subst q'
    exact ⟨v, rfl, h⟩
  | x :: ds, _, i + 1, d, ⟨v, r, e, h, t⟩, q => by
    subst e
    obtain ⟨u, h1, h2⟩ := Reps.get (i := i) t (by simpa using q)
    exact ⟨u, by simpa using h1, h2⟩
theorem Reps.getV : ∀ {ds : List D} {vs : List V} {i : Nat} {v : V}, Reps K M H ds vs → vs[i]? = some v → ∃ d, ds[i]? = some d ∧ Rep K M H d v
  | [], vs, _, _, h, e => by obtain rfl : vs = [] := h; simp at e
  | x :: ds, _, 0, v, ⟨w, r, e, h, t⟩, q => by
    subst e
    have q' : w = v := by simpa using q
    subst q'
    exact ⟨x, rfl, h⟩
  | x :: ds, _, i + 1, v, ⟨w, r, e, h, t⟩, q => by
    subst e
    obtain ⟨u, h1, h2⟩ := Reps.getV (i := i) t (by simpa using q)
    exact ⟨u, by simpa using h1, h2⟩
theorem Reps.append : ∀ {ds es : List D} {vs ws : List V}, Reps K M H ds vs → Reps K M H es ws → Reps K M H (ds ++ es) (vs ++ ws)
  | [], _, _, _, h, q => by obtain rfl : _ = [] := h; exact q
  | _ :: _, _, _, _, ⟨v, r, e, h, t⟩, q => by subst e; exact ⟨v, _, rfl, h, Reps.append t q⟩
theorem Reps.take : ∀ {ds : List D} {vs : List V} (n : Nat), Reps K M H ds vs → Reps K M H (ds.take n) (vs.take n)
  | _, _, 0, _ => rfl
  | [], _, n + 1, h => by obtain rfl : _ = [] := h; rfl
  | _ :: _, _, n + 1, ⟨v, r, e, h, t⟩ => by subst e; exact ⟨v, _, rfl, h, Reps.take n t⟩
theorem Reps.drop : ∀ {ds : List D} {vs : List V} (n : Nat), Reps K M H ds vs → Reps K M H (ds.drop n) (vs.drop n)
  | _, _, 0, h => h
  | [], _, n + 1, h => by obtain rfl : _ = [] := h; rfl
  | _ :: _, _, n + 1, ⟨v, r, e, h, t⟩ => by subst e; exact Reps.drop n t
theorem Reps.set {d : D} {v : V} (q : Rep K M H d v) : ∀ {ds : List D} {vs : List V} (i : Nat), Reps K M H ds vs → Reps K M H (ds.set i d) (vs.set i v)
  | [], _, _, h => by obtain rfl : _ = [] := h; rfl
  | _ :: _, _, 0, ⟨w, r, e, h, t⟩ => by subst e; exact ⟨v, r, rfl, q, t⟩
  | _ :: _, _, i + 1, ⟨w, r, e, h, t⟩ => by subst e; exact ⟨w, _, rfl, h, Reps.set q i t⟩
theorem Reps.dropLast {ds : List D} {vs : List V} (h : Reps K M H ds vs) : Reps K M H ds.dropLast vs.dropLast := by
  rw [List.dropLast_eq_take, List.dropLast_eq_take, h.length]; exact Reps.take _ h
theorem Reps.reverse : ∀ {ds : List D} {vs : List V}, Reps K M H ds vs → Reps K M H ds.reverse vs.reverse
  | [], _, h => by obtain rfl : _ = [] := h; rfl
  | _ :: _, _, ⟨v, r, e, h, t⟩ => by subst e; rw [List.reverse_cons, List.reverse_cons]; exact Reps.append (Reps.reverse t) (.cons h .nil)
theorem Reps.eraseIdx : ∀ {ds : List D} {vs : List V} (i : Nat), Reps K M H ds vs → Reps K M H (ds.eraseIdx i) (vs.eraseIdx i)
  | [], _, _, h => by obtain rfl : _ = [] := h; rfl
  | _ :: _, _, 0, ⟨v, r, e, h, t⟩ => by subst e; exact t
  | _ :: _, _, i + 1, ⟨v, r, e, h, t⟩ => by subst e; exact ⟨v, _, rfl, h, Reps.eraseIdx i t⟩
end
/-! ### slots -/
inductive Slot where
  | un | d (x : D) | own (a : Addr) (x : D)
abbrev En := List Slot
/-- the content of an owned object -/
def Own (K : PySem.W.Frag) (M : Addr → Prop) (H : Hp) : D → Addr → Prop
  | .lst ds, a => ∃ vs, H a = some (.lst vs) ∧ Reps K M H ds vs
  | .dct kvs, a => ∃ vs, H a = some (.dK vs) ∧ RepK K M H kvs vs
  | .obj C fs, a => ∃ dx vs, H a = some (.ins C dx vs) ∧ RepF K M H fs vs
  | _, _ => False
def SlotOk (K : PySem.W.Frag) (M : Addr → Prop) (H : Hp) : Slot → Option V → Prop
  | .un, _ => True
  | .d x, o => ∃ v, o = some v ∧ Rep K M H x v
  | .own a x, o => o = some (.ref a) ∧ Own K M H x a
def ownA : Slot → Option Addr
  | .own a _ => some a
  | _ => none
def owns (e : En) : List Addr := e.filterMap ownA
/-- what stays the same while a def runs: the written part, what the callers own, the heap at the entry, what it was handed to change -/
structure Cn where
  K : PySem.W.Frag
  M0 : Addr → Prop
  H0 : Hp
  io : List Addr
def Md (C : Cn) (fl : List Addr) (e : En) (a : Addr) : Prop := C.M0 a ∨ a ∈ owns e ∨ a ∈ fl
structure StR (C : Cn) (fl : List Addr) (σ : L2.St) (H : Hp) (e : En) : Prop where
  len : e.length = σ.length
  sl : ∀ (i : Nat) (s : Slot), e[i]? = some s → SlotOk C.K (Md C fl e) H s (σ[i]?.join)
  nd : (owns e ++ fl).Nodup
  al : ∀ a, Md C fl e a → ∃ o, H a = some o ∧ MutO o
  new : ∀ a, a ∈ owns e ∨ a ∈ fl → a ∈ C.io ∨ C.H0 a = none
  keep : ∀ b o, C.H0 b = some o → b ∉ C.io → H b = some o
  iot : ∀ b ∈ C.io, ∃ o, H b = some o
theorem Own.later {fl : List Addr} {K : PySem.W.Frag} {M M' : Addr → Prop} {H H' : Hp} (p : Later fl M H M' H') {d : D} {a : Addr} (e : H' a = H a) (h : Own K M H d a) : Own K M' H' d a := by
  cases d with
  | lst ds => obtain ⟨vs, h1, r⟩ := h; exact ⟨vs, e.trans h1, r.later p⟩
  | dct ds => obtain ⟨vs, h1, r⟩ := h; exact ⟨vs, e.trans h1, r.later p⟩
  | obj C ds => obtain ⟨dx, vs, h1, r⟩ := h; exact ⟨dx, vs, e.trans h1, r.later p⟩
  | _ => exact h.elim
/-- an owned object that is no longer owned -/
theorem Own.rep {K : PySem.W.Frag} {M : Addr → Prop} {H : Hp} {d : D} {a : Addr} (n : ¬ M a) (h : Own K M H d a) : Rep K M H d (.ref a) := by
  cases d with
  | lst ds => obtain ⟨vs, h1, r⟩ := h; exact ⟨a, vs, rfl, n, h1, r⟩
  | dct ds => obtain ⟨vs, h1, r⟩ := h; exact ⟨a, vs, rfl, n, .inl h1, r⟩
  | obj C ds => obtain ⟨dx, vs, h1, r⟩ := h; exact ⟨a, dx, vs, rfl, n, h1, r⟩
  | _ => exact h.elim
theorem Own.mut {K : PySem.W.Frag} {M : Addr → Prop} {H : Hp} {d : D} {a : Addr} (h : Own K M H d a) : ∃ o, H a = some o ∧ MutO o := by
  cases d with
  | lst ds => obtain ⟨vs, h1, r⟩ := h; exact ⟨_, h1, trivial⟩
  | dct ds => obtain ⟨vs, h1, r⟩ := h; exact ⟨_, h1, trivial⟩
  | obj C ds => obtain ⟨dx, vs, h1, r⟩ := h; exact ⟨_, h1, trivial⟩
  | _ => exact h.elim
theorem Later.sameF {fl : List Addr} {M M' : Addr → Prop} {H : Hp} (h : ∀ a, M' a → M a) : Later fl M H M' H := ⟨fun a x => .inl (h a x), fun _ _ e _ => e, fun _ _ => rfl⟩
theorem Later.same {M M' : Addr → Prop} {H : Hp} (h : ∀ a, M' a → M a) : Later [] M H M' H := .sameF h
theorem SlotOk.later {fl : List Addr} {K : PySem.W.Frag} {M M' : Addr → Prop} {H H' : Hp} (p : Later fl M H M' H') {s : Slot} {o : Option V} (e : ∀ a x, s = .own a x → H' a = H a) (h : SlotOk K M H s o) : SlotOk K M' H' s o := by
  cases s with
  | un => trivial
  | d x => obtain ⟨v, e1, r⟩ := h; exact ⟨v, e1, r.later p⟩
  | own a x => exact ⟨h.1, h.2.later p (e a x rfl)⟩
theorem mem_owns {e : En} {a : Addr} : a ∈ owns e ↔ ∃ (i : Nat) (x : D), e[i]? = some (Slot.own a x) := by
  unfold owns
  rw [List.mem_filterMap]
  constructor
  · rintro ⟨s, hs, q⟩
    cases s with
    | own b x =>
      obtain rfl : b = a := by simpa [ownA] using q
      obtain ⟨i, hi⟩ := List.getElem?_of_mem hs
      exact ⟨i, x, hi⟩
    | _ => simp [ownA] at q
  · rintro ⟨i, x, h⟩
    exact ⟨.own a x, List.mem_of_getElem? h, rfl⟩
theorem owns_nodup_ix : ∀ {e : En} {i j : Nat} {a : Addr} {x y : D}, (owns e).Nodup → e[i]? = some (.own a x) → e[j]? = some (.own a y) → i = j
  | [], _, _, _, _, _, _, h, _ => by simp at h
  | s :: e, 0, 0, _, _, _, _, _, _ => rfl
  | s :: e, 0, j + 1, a, x, y, n, h, q => by
    exfalso
    obtain rfl : s = .own a x := by simpa using h
    have hm : a ∈ owns e := mem_owns.mpr ⟨j, y, by simpa using q⟩
    have n' : (a :: owns e).Nodup := n
    exact (List.nodup_cons.mp n').1 hm
  | s :: e, i + 1, 0, a, x, y, n, h, q => by
    exfalso
    obtain rfl : s = .own a y := by simpa using q
    have hm : a ∈ owns e := mem_owns.mpr ⟨i, x, by simpa using h⟩
    have n' : (a :: owns e).Nodup := n
    exact (List.nodup_cons.mp n').1 hm
  | s :: e, i + 1, j + 1, a, x, y, n, h, q => by
    have n' : (owns e).Nodup := by
      cases s with
      | own b z => exact (List.nodup_cons.mp (show (b :: owns e).Nodup from n)).2
      | un => exact n
      | d z => exact n
    rw [owns_nodup_ix (i := i) (j := j) n' (by simpa using h) (by simpa using q)]
/-- a slot that holds nothing owned is set to something not owned, at place i -/
theorem owns_set_sub {e : En} {i : Nat} {s : Slot} (hs : ownA s = none) : (owns (e.set i s)).Sublist (owns e) := by
  induction e generalizing i with
  | nil => exact .refl _
  | cons t e ih =>
    cases i with
    | zero =>
      show (owns (s :: e)).Sublist (owns (t :: e))
      have h1 : owns (s :: e) = owns e := by unfold owns; rw [List.filterMap_cons, hs]
      rw [h1]
      unfold owns
      rw [List.filterMap_cons]
      cases ownA t with
      | none => exact .refl _
      | some b => exact List.sublist_cons_self _ _
    | succ i =>
      show (owns (t :: e.set i s)).Sublist (owns (t :: e))
      unfold owns
      rw [List.filterMap_cons, List.filterMap_cons]
      cases ownA t with
      | none => exact ih
      | some b => exact (ih (i := i)).cons_cons b
end DL
set_option maxHeartbeats 2000000
namespace DL
open PySem L2
/-! ### the ground: what is owned, and slots that change -/
theorem Md.less {C : Cn} {fl : List Addr} {e e' : En} (h : ∀ a, a ∈ owns e' → a ∈ owns e) : ∀ a, Md C fl e' a → Md C fl e a := fun a x => by
  rcases x with x | x | x
  · exact .inl x
  · exact .inr (.inl (h a x))
  · exact .inr (.inr x)
theorem join_some {α : Type} {o : Option (Option α)} {v : α} : o.join = some v ↔ o = some (some v) := by
  cases o with
  | none => simp
  | some x => cases x <;> simp
structure CnOk (C : Cn) : Prop where
  m0 : ∀ a, C.M0 a → a ∉ C.io ∧ ∃ o, C.H0 a = some o ∧ MutO o
theorem StR.notM0 {C : Cn} {fl : List Addr} {σ : L2.St} {H : Hp} {e : En} (c : CnOk C) (R : StR C fl σ H e) {a : Addr} (h : a ∈ owns e ∨ a ∈ fl) : ¬ C.M0 a := fun z => by
  obtain ⟨n, o, ho, _⟩ := c.m0 a z
  rcases R.new a h with q | q
  · exact n q
  · rw [ho] at q; cases q
theorem StR.get {C : Cn} {fl : List Addr} {σ : L2.St} {H : Hp} {e : En} (R : StR C fl σ H e) {i : Nat} {x : D} (h : e[i]? = some (.d x)) : ∃ v, σ[i]? = some (some v) ∧ Rep C.K (Md C fl e) H x v := by
  obtain ⟨v, e1, r⟩ := R.sl i _ h
  exact ⟨v, join_some.mp e1, r⟩
theorem StR.getO {C : Cn} {fl : List Addr} {σ : L2.St} {H : Hp} {e : En} (R : StR C fl σ H e) {i : Nat} {a : Addr} {x : D} (h : e[i]? = some (.own a x)) : σ[i]? = some (some (.ref a)) ∧ Own C.K (Md C fl e) H x a := by
  obtain ⟨e1, r⟩ := R.sl i _ h
  exact ⟨join_some.mp e1, r⟩
theorem sublist_mem {α : Type} {l m : List α} (h : l.Sublist m) {a : α} (x : a ∈ l) : a ∈ m := h.subset x
/-- what is owned at place i stands nowhere else -/
theorem owns_set_not {e : En} {i : Nat} {a : Addr} {x : D} {s : Slot} (n : (owns e).Nodup) (h : e[i]? = some (.own a x)) (hs : ownA s = none) : a ∉ owns (e.set i s) := fun z => by
  obtain ⟨j, y, hj⟩ := mem_owns.mp z
  by_cases q : j = i
  · subst q
    have hlt : j < e.length := (List.getElem?_eq_some_iff.mp h).1
    rw [List.getElem?_set_self hlt] at hj
    obtain rfl : s = .own a y := Option.some.inj hj
    simp [ownA] at hs
  · rw [List.getElem?_set_ne (Ne.symm q)] at hj
    exact q (owns_nodup_ix n hj h)
/-- a slot is set to data (whatever it was) -/
theorem StR.setD {C : Cn} {fl : List Addr} {σ : L2.St} {H : Hp} {e : En} (R : StR C fl σ H e) {i : Nat} {x : D} {v : V} (r : Rep C.K (Md C fl e) H x v) : StR C fl (σ.set i (some v)) H (e.set i (.d x)) := by
  have sub := owns_set_sub (e := e) (i := i) (s := .d x) rfl
  have less : ∀ a, Md C fl (e.set i (.d x)) a → Md C fl e a := Md.less fun a h => sublist_mem sub h
  refine ⟨by rw [List.length_set, List.length_set]; exact R.len, fun j s hj => ?_, (sub.append (List.Sublist.refl fl)).nodup R.nd, fun a h => R.al a (less a h), fun a h => ?_, R.keep, R.iot⟩
  · by_cases q : j = i
    · subst q
      have hlt : j < e.length := by
        have := (List.getElem?_eq_some_iff.mp hj).1
        rw [List.length_set] at this
        exact this
      rw [List.getElem?_set_self hlt] at hj
      obtain rfl := Option.some.inj hj
      rw [List.getElem?_set_self (by rw [← R.len]; exact hlt)]
      exact ⟨v, rfl, r.later (.same less)⟩
    · rw [List.getElem?_set_ne (Ne.symm q)] at hj ⊢
      exact (R.sl j s hj).later (.same less) fun _ _ _ => rfl
  · rcases h with h | h
    · exact R.new a (.inl (sublist_mem sub h))
    · exact R.new a (.inr h)
/-- a slot is forgotten -/
theorem StR.setU {C : Cn} {fl : List Addr} {σ : L2.St} {H : Hp} {e : En} (R : StR C fl σ H e) (i : Nat) (o : Option V) : StR C fl (σ.set i o) H (e.set i .un) := by
  have sub := owns_set_sub (e := e) (i := i) (s := .un) rfl
  have less : ∀ a, Md C fl (e.set i .un) a → Md C fl e a := Md.less fun a h => sublist_mem sub h
  refine ⟨by rw [List.length_set, List.length_set]; exact R.len, fun j s hj => ?_, (sub.append (List.Sublist.refl fl)).nodup R.nd, fun a h => R.al a (less a h), fun a h => ?_, R.keep, R.iot⟩
  · by_cases q : j = i
    · subst q
      have hlt : j < e.length := by
        have := (List.getElem?_eq_some_iff.mp hj).1
        rw [List.length_set] at this
        exact this
      rw [List.getElem?_set_self hlt] at hj
      obtain rfl := Option.some.inj hj
      trivial
    · rw [List.getElem?_set_ne (Ne.symm q)] at hj ⊢
      exact (R.sl j s hj).later (.same less) fun _ _ _ => rfl
  · rcases h with h | h
    · exact R.new a (.inl (sublist_mem sub h))
    · exact R.new a (.inr h)
/-- an owned object is handed on as data -/
theorem StR.freeze {C : Cn} {fl : List Addr} {σ : L2.St} {H : Hp} {e : En} (c : CnOk C) (R : StR C fl σ H e) {i : Nat} {a : Addr} {x : D} (h : e[i]? = some (.own a x)) :
    StR C fl σ H (e.set i (.d x)) ∧ Later fl (Md C fl e) H (Md C fl (e.set i (.d x))) H ∧ Rep C.K (Md C fl (e.set i (.d x))) H x (.ref a) := by
  have sub := owns_set_sub (e := e) (i := i) (s := .d x) rfl
  have less : ∀ b, Md C fl (e.set i (.d x)) b → Md C fl e b := Md.less fun b q => sublist_mem sub q
  obtain ⟨e1, ow⟩ := R.getO h
  have hmem : a ∈ owns e := mem_owns.mpr ⟨i, x, h⟩
  have na : ¬ Md C fl (e.set i (.d x)) a := fun z => by
    rcases z with z | z | z
    · exact R.notM0 c (.inl hmem) z
    · exact owns_set_not (List.nodup_append.mp R.nd).1 h rfl z
    · exact (List.nodup_append.mp R.nd).2.2 a hmem a z rfl
  have ow' : Own C.K (Md C fl (e.set i (.d x))) H x a := ow.later (.same less) rfl
  have rp := Own.rep na ow'
  refine ⟨⟨by rw [List.length_set]; exact R.len, fun j s hj => ?_, (sub.append (List.Sublist.refl fl)).nodup R.nd, fun b q => R.al b (less b q), fun b q => ?_, R.keep, R.iot⟩, .sameF less, rp⟩
  · by_cases q : j = i
    · subst q
      have hlt : j < e.length := (List.getElem?_eq_some_iff.mp h).1
      rw [List.getElem?_set_self hlt] at hj
      obtain rfl := Option.some.inj hj
      exact ⟨.ref a, join_some.mpr e1, rp⟩
    · rw [List.getElem?_set_ne (Ne.symm q)] at hj
      exact (R.sl j s hj).later (.same less) fun _ _ _ => rfl
  · rcases q with q | q
    · exact R.new b (.inl (sublist_mem sub q))
    · exact R.new b (.inr q)
/-- a floating object is let go (it is data from now on) -/
theorem StR.land {C : Cn} {fl : List Addr} {σ : L2.St} {H : Hp} {e : En} {a : Addr} (c : CnOk C) (R : StR C (a :: fl) σ H e) :
    StR C fl σ H e ∧ Later fl (Md C (a :: fl) e) H (Md C fl e) H ∧ ¬ Md C fl e a := by
  have less : ∀ b, Md C fl e b → Md C (a :: fl) e b := fun b x => by
    rcases x with x | x | x
    · exact .inl x
    · exact .inr (.inl x)
    · exact .inr (.inr (List.mem_cons_of_mem _ x))
  have nd2 : (owns e ++ fl).Nodup := ((List.Sublist.refl (owns e)).append (List.sublist_cons_self a fl)).nodup R.nd
  refine ⟨⟨R.len, fun j s hj => (R.sl j s hj).later (.same less) fun _ _ _ => rfl, nd2, fun b q => R.al b (less b q), fun b q => ?_, R.keep, R.iot⟩, .sameF less, fun z => ?_⟩
  · rcases q with q | q
    · exact R.new b (.inl q)
    · exact R.new b (.inr (List.mem_cons_of_mem _ q))
  · rcases z with z | z | z
    · exact R.notM0 c (.inr List.mem_cons_self) z
    · exact (List.nodup_append.mp R.nd).2.2 a z a List.mem_cons_self rfl
    · exact (List.nodup_cons.mp (List.nodup_append.mp R.nd).2.1).1 z
/-- all floating objects are let go -/
theorem StR.landAll {C : Cn} {σ : L2.St} {H : Hp} {e : En} (c : CnOk C) : ∀ {fl : List Addr}, StR C fl σ H e → StR C [] σ H e ∧ Later [] (Md C fl e) H (Md C [] e) H
  | [], R => ⟨R, .refl⟩
  | _ :: fl, R => by
    obtain ⟨R1, l1, _⟩ := R.land c
    obtain ⟨R2, l2⟩ := StR.landAll c R1
    exact ⟨R2, l1.nil.trans l2⟩
/-- the heap has grown, or what is not tracked by us has changed -/
theorem StR.heap {C : Cn} {fl : List Addr} {σ : L2.St} {H H' : Hp} {e : En} (R : StR C fl σ H e) (k : ∀ b o, H b = some o → H' b = some o) : StR C fl σ H' e ∧ Later fl (Md C fl e) H (Md C fl e) H' := by
  have l : Later fl (Md C fl e) H (Md C fl e) H' := ⟨fun _ x => .inl x, fun b o x _ => k b o x, fun b hb => by
    obtain ⟨o, ho, _⟩ := R.al b (.inr (.inr hb))
    rw [ho, k b o ho]⟩
  refine ⟨⟨R.len, fun j s hj => (R.sl j s hj).later l fun a x q => ?_, R.nd, fun b q => ?_, R.new, fun b o x n => k b o (R.keep b o x n), fun b q => let ⟨o, ho⟩ := R.iot b q; ⟨o, k b o ho⟩⟩, l⟩
  · subst q
    obtain ⟨o, ho, _⟩ := (R.getO hj).2.mut
    rw [ho, k a o ho]
  · obtain ⟨o, ho, m⟩ := R.al b q
    exact ⟨o, k b o ho, m⟩
theorem upd_keep {H : Hp} {p : Addr} {o : HO} (h : H p = none) : ∀ b u, H b = some u → upd H p o b = some u := fun b u e => by
  rw [upd_ne (ne_of_none e h)]; exact e
/-- a new object is ours, floating -/
theorem StR.float {C : Cn} {fl : List Addr} {σ : L2.St} {H : Hp} {e : En} {p : Addr} {o : HO} (c : CnOk C) (R : StR C fl σ H e) (h : H p = none) (m : MutO o) :
    StR C (p :: fl) σ (upd H p o) e ∧ Later fl (Md C fl e) H (Md C (p :: fl) e) (upd H p o) := by
  have np : ∀ b, Md C fl e b → b ≠ p := fun b q z => by
    obtain ⟨o, ho, _⟩ := R.al b q
    rw [z, h] at ho; cases ho
  have l : Later fl (Md C fl e) H (Md C (p :: fl) e) (upd H p o) := by
    refine ⟨fun b x => ?_, fun b u x _ => upd_keep h b u x, fun b hb => upd_ne (np b (.inr (.inr hb)))⟩
    rcases x with x | x | x
    · exact .inl (.inl x)
    · exact .inl (.inr (.inl x))
    · rcases List.mem_cons.mp x with rfl | x
      · exact .inr h
      · exact .inl (.inr (.inr x))
  refine ⟨⟨R.len, fun j s hj => (R.sl j s hj).later l fun a x q => ?_, ?_, fun b q => ?_, fun b q => ?_, fun b u x n => upd_keep h b u (R.keep b u x n), fun b q => let ⟨u, hu⟩ := R.iot b q; ⟨u, upd_keep h b u hu⟩⟩, l⟩
  · subst q
    exact upd_ne (np a (.inr (.inl (mem_owns.mpr ⟨j, x, hj⟩))))
  · have n1 := List.nodup_append.mp R.nd
    refine List.nodup_append.mpr ⟨n1.1, List.nodup_cons.mpr ⟨fun z => np p (.inr (.inr z)) rfl, n1.2.1⟩, fun b hb b' hb' z => ?_⟩
    subst z
    rcases List.mem_cons.mp hb' with rfl | hb'
    · exact np b (.inr (.inl hb)) rfl
    · exact n1.2.2 b hb b hb' rfl
  · by_cases z : b = p
    · subst z
      exact ⟨o, upd_same, m⟩
    · rw [upd_ne z]
      refine R.al b ?_
      rcases q with q | q | q
      · exact .inl q
      · exact .inr (.inl q)
      · rcases List.mem_cons.mp q with rfl | q
        · exact absurd rfl z
        · exact .inr (.inr q)
  · rcases q with q | q
    · exact R.new b (.inl q)
    · rcases List.mem_cons.mp q with rfl | q
      · refine .inr ?_
        cases z : C.H0 b with
        | none => rfl
        | some u =>
          by_cases zi : b ∈ C.io
          · obtain ⟨o', ho⟩ := R.iot b zi
            rw [h] at ho; cases ho
          · have := R.keep b u z zi
            rw [h] at this; cases this
      · exact R.new b (.inr q)
end DL
set_option maxHeartbeats 2000000
namespace DL
open PySem L2
/-! ### readings without a heap -/
abbrev KE := D → En → Prop
/-- what is wanted of an exception: its class, its fields, the slots -/
abbrev WE := Addr → List (Str × D) → En → Prop
abbrev ME := En → KE → WE → Prop
abbrev MT := En → (Bool → En → Prop) → WE → Prop
inductive Arg where
  | d (x : D) | io (i : Nat)
abbrev MA := En → (List Arg → En → Prop) → WE → Prop
structure MEnds where
  nx : En → Prop
  rt : Slot → En → Prop
  bk : En → Prop
  ct : En → Prop
abbrev MS := MEnds → En → WE → Prop
def WOk (C : Cn) (WD : WE) (W : WX) : Prop := ∀ (Ca dd : Addr) (fs : List (Str × D)) (vs : List (Str × V)) (σ : L2.St) (H : Hp) (e : En),
  StR C [] σ H e → H dd = some (.xd vs) → RepF C.K (Md C [] e) H fs vs → WD Ca fs e → W (.ref Ca) (some dd) σ H
structure Gd (K : PySem.W.Frag) (W : WX) (C : Cn) (fl : List Addr) (σ : L2.St) (H : Hp) (e : En) (WD : WE) : Prop where
  k : C.K = K
  ok : CnOk C
  st : StR C fl σ H e
  w : WOk C WD W
theorem Gd.to {K : PySem.W.Frag} {W : WX} {C : Cn} {fl fl' : List Addr} {σ σ' : L2.St} {H H' : Hp} {e e' : En} {WD : WE} (G : Gd K W C fl σ H e WD) (R : StR C fl' σ' H' e') : Gd K W C fl' σ' H' e' WD := ⟨G.k, G.ok, R, G.w⟩
/-- a value comes | a new object comes | something comes that may be owned still (it is looked at) -/
def cE (K : PySem.W.Frag) (W : WX) (t : ME) : TE := fun σ H R => ∃ C fl e Q WD, Gd K W C fl σ H e WD ∧ t e Q WD ∧
  ∀ d e' v H', StR C fl σ H' e' → Later fl (Md C fl e) H (Md C fl e') H' → Rep K (Md C fl e') H' d v → Q d e' → R v H'
def cF (K : PySem.W.Frag) (W : WX) (t : ME) : TE := fun σ H R => ∃ C fl e Q WD, Gd K W C fl σ H e WD ∧ t e Q WD ∧
  ∀ d e' a H', StR C (a :: fl) σ H' e' → Later fl (Md C fl e) H (Md C (a :: fl) e') H' → Own K (Md C (a :: fl) e') H' d a → Q d e' → R (.ref a) H'
def Pk (K : PySem.W.Frag) (C : Cn) (fl : List Addr) (e : En) (H : Hp) (d : D) (v : V) : Prop := Rep K (Md C fl e) H d v ∨ ∃ (i : Nat) (a : Addr), e[i]? = some (Slot.own a d) ∧ v = .ref a
def cP (K : PySem.W.Frag) (W : WX) (t : ME) : TE := fun σ H R => ∃ C fl e Q WD, Gd K W C fl σ H e WD ∧ t e Q WD ∧
  ∀ d e' v H', StR C fl σ H' e' → Later fl (Md C fl e) H (Md C fl e') H' → Pk K C fl e' H' d v → Q d e' → R v H'
def cT (K : PySem.W.Frag) (W : WX) (t : MT) : TT := fun σ H R => ∃ C fl e Q WD, Gd K W C fl σ H e WD ∧ t e Q WD ∧
  ∀ b e' H', StR C fl σ H' e' → Later fl (Md C fl e) H (Md C fl e') H' → Q b e' → R b H'
def ArgR (K : PySem.W.Frag) (M : Addr → Prop) (H : Hp) (e : En) : Arg → V → Prop
  | .d x, v => Rep K M H x v
  | .io i, v => ∃ a x, e[i]? = some (Slot.own a x) ∧ v = .ref a
abbrev ArgsR (K : PySem.W.Frag) (M : Addr → Prop) (H : Hp) (e : En) : List Arg → List V → Prop := Paired (ArgR K M H e)
def cA (K : PySem.W.Frag) (W : WX) (n : Nat) (t : MA) : TA := fun σ H R => ∃ C fl e Q WD, Gd K W C fl σ H e WD ∧ t e Q WD ∧
  ∀ as e' vs H', StR C fl σ H' e' → Later fl (Md C fl e) H (Md C fl e') H' → ArgsR K (Md C fl e') H' e' as vs → as.length = n → Q as e' → R vs H'
/-- a result: data, or a new object -/
def RtOk (C : Cn) (s : Slot) (e : En) (v : V) (σ : L2.St) (H : Hp) : Prop := match s with
  | .d x => StR C [] σ H e ∧ Rep C.K (Md C [] e) H x v
  | .own a x => StR C [a] σ H e ∧ v = .ref a ∧ Own C.K (Md C [a] e) H x a
  | .un => False
def cS (K : PySem.W.Frag) (W : WX) (t : MS) : TS := fun D σ H => ∃ C e MD WD, Gd K W C [] σ H e WD ∧ t MD e WD ∧
  (∀ e' σ' H', StR C [] σ' H' e' → MD.nx e' → D.nx σ' H') ∧ (∀ s e' v σ' H', RtOk C s e' v σ' H' → MD.rt s e' → D.rt v H') ∧
  (∀ e' σ' H', StR C [] σ' H' e' → MD.bk e' → D.bk σ' H') ∧ (∀ e' σ' H', StR C [] σ' H' e' → MD.ct e' → D.ct σ' H')
structure RE (X : Cx) (e : Expr) (t : ME) : Prop where
  run : ∀ W, Takes X W → PE X e (cE X.K W t)
structure RF (X : Cx) (e : Expr) (t : ME) : Prop where
  run : ∀ W, Takes X W → PE X e (cF X.K W t)
structure RP (X : Cx) (e : Expr) (t : ME) : Prop where
  run : ∀ W, Takes X W → PE X e (cP X.K W t)
structure RT (X : Cx) (e : Expr) (t : MT) : Prop where
  run : ∀ W, Takes X W → PT X e (cT X.K W t)
structure RW (X : Cx) (e : Expr) (t : MT) : Prop where
  run : ∀ W, Takes X W → PW X e (cT X.K W t)
structure RA (X : Cx) (es : List Expr) (n : Nat) (t : MA) : Prop where
  run : ∀ W, Takes X W → PA X es (cA X.K W n t)
structure RS (X : Cx) (st : Stmt) (t : MS) : Prop where
  run : ∀ W, Takes X W → PS X st (cS X.K W t)
structure RSs (X : Cx) (st : List Stmt) (t : MS) : Prop where
  run : ∀ W, Takes X W → PSs X st (cS X.K W t)
theorem _root_.L2.PE.of {X : Cx} {e : Expr} {t u : TE} (h : PE X e t) (i : ∀ σ H Q, u σ H Q → t σ H Q) : PE X e u := ⟨fun pins s σ H Q I w => h.run pins s σ H Q I (i _ _ _ w)⟩
theorem _root_.L2.PT.of {X : Cx} {e : Expr} {t u : TT} (h : PT X e t) (i : ∀ σ H Q, u σ H Q → t σ H Q) : PT X e u := ⟨fun pins s σ H Q I w => h.run pins s σ H Q I (i _ _ _ w)⟩
theorem _root_.L2.PW.of {X : Cx} {e : Expr} {t u : TT} (h : PW X e t) (i : ∀ σ H Q, u σ H Q → t σ H Q) : PW X e u := ⟨fun wh pins s σ H Q I w => h.run wh pins s σ H Q I (i _ _ _ w)⟩
theorem _root_.L2.PA.of {X : Cx} {e : List Expr} {t u : TA} (h : PA X e t) (i : ∀ σ H Q, u σ H Q → t σ H Q) : PA X e u := ⟨fun pos pins s σ H Q I w => h.run pos pins s σ H Q I (i _ _ _ w)⟩
theorem _root_.L2.PS.of {X : Cx} {e : Stmt} {t u : TS} (h : PS X e t) (i : ∀ D σ H, u D σ H → t D σ H) : PS X e u := ⟨fun pins s σ H D I w => h.run pins s σ H D I (i _ _ _ w)⟩
theorem _root_.L2.PSs.of {X : Cx} {e : List Stmt} {t u : TS} (h : PSs X e t) (i : ∀ D σ H, u D σ H → t D σ H) : PSs X e u := ⟨fun pins s σ H D I w => h.run pins s σ H D I (i _ _ _ w)⟩
section
variable {X : Cx} {pos : Pos} {a b c : Expr} {ta tb tc : ME}
/-! ### from one kind to another -/
theorem RF.re {e : Expr} {t : ME} (h : RF X e t) : RE X e t := ⟨fun W tk => (h.run W tk).of fun σ H R ⟨C, fl, e, Q, WD, G, ht, k⟩ => ⟨C, fl, e, Q, WD, G, ht, fun d e' a H' R1 l o q => by
  obtain ⟨R2, l2, na⟩ := R1.land G.ok
  exact k d e' (.ref a) H' R2 (l.trans l2) ((o.later l2 rfl).rep na) q⟩⟩
theorem RE.rp {e : Expr} {t : ME} (h : RE X e t) : RP X e t := ⟨fun W tk => (h.run W tk).of fun σ H R ⟨C, fl, e, Q, WD, G, ht, k⟩ => ⟨C, fl, e, Q, WD, G, ht, fun d e' v H' R1 l r q => k d e' v H' R1 l (.inl r) q⟩⟩
/-! ### constants and names -/
def mC (d : D) : ME := fun e Q _ => Q d e
theorem re_c {e : Expr} {d : D} {v : V} (h : PE X e (tC v)) (r : ∀ M H, Rep X.K M H d v) : RE X e (mC d) := ⟨fun W tk => h.of fun σ H R ⟨C, fl, e, Q, WD, G, ht, k⟩ => k d e v H G.st .refl (r _ _) ht⟩
theorem re_int {i j} : RE X (.Constant (.int i) j pos) (mC (.int i)) := re_c pe_int fun _ _ => rfl
theorem re_bl {i j} : RE X (.Constant (.bool i) j pos) (mC (.bl i)) := re_c pe_bl fun _ _ => rfl
theorem re_non {j} : RE X (.Constant .none j pos) (mC .non) := re_c pe_non fun _ _ => rfl
theorem re_str {x j} : RE X (.Constant (.str x) j pos) (mC (.str x)) := re_c pe_str fun _ _ => rfl
/-- a name's value; what is owned is owned no longer -/
def mVar (i : Nat) : ME := fun e Q _ => match e[i]? with
  | some (.d x) => Q x e
  | some (.own _ x) => Q x (e.set i (.d x))
  | _ => False
theorem re_v {e : Expr} {i : Nat} (h : PE X e (tVar i)) : RE X e (mVar i) := ⟨fun W tk => h.of fun σ H R ⟨C, fl, e, Q, WD, G, ht, k⟩ => by
  unfold mVar at ht
  cases q : e[i]? with
  | none => rw [q] at ht; exact ht.elim
  | some s =>
    rw [q] at ht
    cases s with
    | un => exact ht.elim
    | d x =>
      obtain ⟨v, e1, r⟩ := G.st.get q
      rw [G.k] at r
      exact ⟨v, e1, k x e v H G.st .refl r ht⟩
    | own a x =>
      obtain ⟨e1, _⟩ := G.st.getO q
      obtain ⟨R2, l, r⟩ := G.st.freeze G.ok q
      rw [G.k] at r
      exact ⟨.ref a, e1, k x _ (.ref a) H R2 l r ht⟩⟩
/-- .. that is looked at -/
def mPk (i : Nat) : ME := fun e Q _ => match e[i]? with
  | some (.d x) => Q x e
  | some (.own _ x) => Q x e
  | _ => False
theorem rp_v {e : Expr} {i : Nat} (h : PE X e (tVar i)) : RP X e (mPk i) := ⟨fun W tk => h.of fun σ H R ⟨C, fl, e, Q, WD, G, ht, k⟩ => by
  unfold mPk at ht
  cases q : e[i]? with
  | none => rw [q] at ht; exact ht.elim
  | some s =>
    rw [q] at ht
    cases s with
    | un => exact ht.elim
    | d x =>
      obtain ⟨v, e1, r⟩ := G.st.get q
      rw [G.k] at r
      exact ⟨v, e1, k x e v H G.st .refl (.inl r) ht⟩
    | own a x =>
      obtain ⟨e1, _⟩ := G.st.getO q
      exact ⟨.ref a, e1, k x e (.ref a) H G.st .refl (.inr ⟨i, a, q, rfl⟩) ht⟩⟩
/-! ### operators on data -/
abbrev DR2 := D → D → (D → Prop) → Prop
/-- what is said of data holds of values; no object comes that is not there -/
def Lift2 (K : PySem.W.Frag) (r : DR2) (r2 : R2) : Prop := ∀ (M : Addr → Prop) (H : Hp) (x y : D) (v u : V) (k : D → Prop) (R : VK), Rep K M H x v → Rep K M H y u → r x y k → (∀ z w, k z → Rep K M H z w → R w H) → r2 v u H R
def mOp (r : DR2) (ta tb : ME) : ME := fun e Q W => ta e (fun x e1 => tb e1 (fun y e2 => r x y fun z => Q z e2) W) W
/-- the readings of two operands, one behind the other -/
theorem two {K : PySem.W.Frag} {W : WX} {C : Cn} {fl : List Addr} {σ : L2.St} {H : Hp} {e : En} {WD : WE} (G : Gd K W C fl σ H e WD) {Q : D → D → En → Prop} {R : V → V → Hp → Prop}
    (h : ta e (fun x e1 => tb e1 (fun y e2 => Q x y e2) WD) WD)
    (k : ∀ x y e2 v u H2, StR C fl σ H2 e2 → Later fl (Md C fl e) H (Md C fl e2) H2 → Rep K (Md C fl e2) H2 x v → Rep K (Md C fl e2) H2 y u → Q x y e2 → R v u H2) :
    cE K W ta σ H fun v H1 => cE K W tb σ H1 fun u H2 => R v u H2 :=
  ⟨C, fl, e, _, WD, G, h, fun x e1 v H1 R1 l1 r1 h1 => ⟨C, fl, e1, _, WD, G.to R1, h1, fun y e2 u H2 R2 l2 r2 h2 => k x y e2 v u H2 R2 (l1.trans l2) (r1.later l2) r2 h2⟩⟩
theorem re_op {op : Operator} {r : DR2} {r2 : R2} (ho : OpR X (binaryOp op) r2) (hr : Lift2 X.K r r2) (ha : RE X a ta) (hb : RE X b tb) : RE X (.BinOp a op b pos) (mOp r ta tb) :=
  ⟨fun W tk => (pe_op ho (ha.run W tk) (hb.run W tk)).of fun σ H R ⟨C, fl, e, Q, WD, G, ht, k⟩ => two G ht fun x y e2 v u H2 R2 l r1 r2' q => hr _ _ x y v u _ _ r1 r2' q fun z w hz rz => k z e2 w H2 R2 l rz hz⟩
theorem re_cmp {op : CmpOp} {r : DR2} {r2 : R2} (ho : OpR X (compareOp op) r2) (hr : Lift2 X.K r r2) (ha : RE X a ta) (hb : RE X b tb) (hm : behindInMarks op b = false) : RE X (.Compare a [op] [b] pos) (mOp r ta tb) :=
  ⟨fun W tk => (pe_cmpR ho (ha.run W tk) (hb.run W tk) hm).of fun σ H R ⟨C, fl, e, Q, WD, G, ht, k⟩ => two G ht fun x y e2 v u H2 R2 l r1 r2' q => hr _ _ x y v u _ _ r1 r2' q fun z w hz rz => k z e2 w H2 R2 l rz hz⟩
/-- a value that is True or False, as a test -/
def kB (Q : Bool → Prop) : D → Prop
  | .bl b => Q b
  | _ => False
def mTest (t : ME) : MT := fun e Q W => t e (fun x e1 => kB (fun b => Q b e1) x) W
theorem kB_of {Q : Bool → Prop} {x : D} (h : kB Q x) : ∃ b, x = .bl b ∧ Q b := by
  cases x <;> first | exact h.elim | exact ⟨_, rfl, h⟩
theorem rt_cmp {op : CmpOp} {r : DR2} {r2 : R2} (ho : OpR X (compareOp op) r2) (hr : Lift2 X.K r r2) (ha : RE X a ta) (hb : RE X b tb) (hm : behindInMarks op b = false) : RT X (.Compare a [op] [b] pos) (mTest (mOp r ta tb)) :=
  ⟨fun W tk => (pt_cmpR ho (ha.run W tk) (hb.run W tk) hm).of fun σ H R ⟨C, fl, e, Q, WD, G, ht, k⟩ => two G (Q := fun x y e2 => r x y fun z => kB (fun b => Q b e2) z) ht fun x y e2 v u H2 R2 l r1 r2' q => hr _ _ x y v u _ _ r1 r2' q fun z w hz rz => by
    obtain ⟨b, rfl, hq⟩ := kB_of hz
    exact ⟨b, rz, k b e2 H2 R2 l hq⟩⟩
theorem rt_val {e : Expr} {t : ME} (h : RE X e t) (he : ∀ whole, isTrue e X.env whole = (do let v ← whole; standAt e.pos; holding [v] (truthy v)) := by intro _; rfl) : RT X e (mTest t) :=
  ⟨fun W tk => (pt_val (h.run W tk) he).of fun σ H R ⟨C, fl, e, Q, WD, G, ht, k⟩ => ⟨C, fl, e, _, WD, G, ht, fun d e' v H' R1 l r q => by
    obtain ⟨b, rfl, hq⟩ := kB_of q
    exact ⟨b, r, k b e' H' R1 l hq⟩⟩⟩
/-- a op b op' c -/
def mChain (r r' : DR2) (ta tb tc : ME) : ME := fun e Q W => ta e (fun x e1 => tb e1 (fun y e2 => r x y (kB fun k => if k = true then tc e2 (fun z e3 => r' y z fun w => Q w e3) W else Q (.bl false) e2)) W) W
theorem chain_ok {K : PySem.W.Frag} {r r' : DR2} {r2 r2' : R2} (hr : Lift2 K r r2) (hr' : Lift2 K r' r2') {W : WX} {σ : L2.St} {H : Hp} {R : VK} (h : cE K W (mChain r r' ta tb tc) σ H R) : tChain r2 r2' (cE K W ta) (cE K W tb) (cE K W tc) σ H R := by
  obtain ⟨C, fl, e, Q, WD, G, ht, k⟩ := h
  refine two G (Q := fun x y e2 => r x y (kB fun k => if k = true then tc e2 (fun z e3 => r' y z fun w => Q w e3) WD else Q (.bl false) e2)) ht fun x y e2 v u H2 R2 l r1 r2 q => hr _ _ x y v u _ _ r1 r2 q fun z w hz rz => ?_
  obtain ⟨b, rfl, hq⟩ := kB_of hz
  refine ⟨b, rz, ?_⟩
  by_cases hb : b = true
  · rw [if_pos hb] at hq ⊢
    exact ⟨C, fl, e2, _, WD, G.to R2, hq, fun z e3 w3 H3 R3 l3 r3 q3 => hr' _ _ y z u w3 _ _ (r2.later l3) r3 q3 fun z' w' hz' rz' => k z' e3 w' H3 R3 (l.trans l3) rz' hz'⟩
  · rw [if_neg hb] at hq ⊢
    exact k (.bl false) e2 (.bl false) H2 R2 l rfl hq
theorem re_chain {op op' : CmpOp} {r r' : DR2} {r2 r2' : R2} (ho : OpR X (compareOp op) r2) (hr : Lift2 X.K r r2) (ho' : OpR X (compareOp op') r2') (hr' : Lift2 X.K r' r2') (ha : RE X a ta) (hb : RE X b tb) (hc : RE X c tc)
    (hm : lastMarks [op, op'] [b, c] = false := by with_unfolding_all rfl) : RE X (.Compare a [op, op'] [b, c] pos) (mChain r r' ta tb tc) :=
  ⟨fun W tk => (pe_chain ho ho' (ha.run W tk) (hb.run W tk) (hc.run W tk) hm).of fun σ H R h => chain_ok hr hr' h⟩
theorem rt_chain {op op' : CmpOp} {r r' : DR2} {r2 r2' : R2} (ho : OpR X (compareOp op) r2) (hr : Lift2 X.K r r2) (ho' : OpR X (compareOp op') r2') (hr' : Lift2 X.K r' r2') (ha : RE X a ta) (hb : RE X b tb) (hc : RE X c tc)
    (hm : lastMarks [op, op'] [b, c] = false := by with_unfolding_all rfl) : RT X (.Compare a [op, op'] [b, c] pos) (mTest (mChain r r' ta tb tc)) :=
  ⟨fun W tk => (pt_chain ho ho' (ha.run W tk) (hb.run W tk) (hc.run W tk) hm).of fun σ H R ⟨C, fl, e, Q, WD, G, ht, k⟩ => chain_ok hr hr' ⟨C, fl, e, _, WD, G, ht, fun d e' v H' R1 l r q => by
    obtain ⟨b, rfl, hq⟩ := kB_of q
    exact ⟨b, r, k b e' H' R1 l hq⟩⟩⟩
/-! ### tests -/
variable {uA uB : MT} {rest : List Expr}
def mAnd (t u : MT) : MT := fun e Q W => t e (fun k e1 => if k = true then u e1 Q W else Q false e1) W
def mOr (t u : MT) : MT := fun e Q W => t e (fun k e1 => if k = true then Q true e1 else u e1 Q W) W
def mNot (t : MT) : MT := fun e Q W => t e (fun k e1 => Q (!k) e1) W
theorem RW.rt {e : Expr} {t : MT} (h : RW X e t) : RT X e t := ⟨fun W tk => (h.run W tk).pt⟩
theorem rw_and1 (h : RT X a uA) : RW X (.BoolOp .And [a] pos) uA := ⟨fun W tk => pw_and1 (h.run W tk)⟩
theorem rw_or1 (h : RT X a uA) : RW X (.BoolOp .Or [a] pos) uA := ⟨fun W tk => pw_or1 (h.run W tk)⟩
theorem rw_and (h : RT X a uA) (h2 : RW X (.BoolOp .And (b :: rest) pos) uB) : RW X (.BoolOp .And (a :: b :: rest) pos) (mAnd uA uB) :=
  ⟨fun W tk => (pw_and (h.run W tk) (h2.run W tk)).of fun σ H R ⟨C, fl, e, Q, WD, G, ht, k⟩ => ⟨C, fl, e, _, WD, G, ht, fun c e1 H1 R1 l1 q => by
    cases c with
    | true => exact ⟨C, fl, e1, _, WD, G.to R1, q, fun b e2 H2 R2 l2 q2 => k b e2 H2 R2 (l1.trans l2) q2⟩
    | false => exact k false e1 H1 R1 l1 q⟩⟩
theorem rw_or (h : RT X a uA) (h2 : RW X (.BoolOp .Or (b :: rest) pos) uB) : RW X (.BoolOp .Or (a :: b :: rest) pos) (mOr uA uB) :=
  ⟨fun W tk => (pw_or (h.run W tk) (h2.run W tk)).of fun σ H R ⟨C, fl, e, Q, WD, G, ht, k⟩ => ⟨C, fl, e, _, WD, G, ht, fun c e1 H1 R1 l1 q => by
    cases c with
    | false => exact ⟨C, fl, e1, _, WD, G.to R1, q, fun b e2 H2 R2 l2 q2 => k b e2 H2 R2 (l1.trans l2) q2⟩
    | true => exact k true e1 H1 R1 l1 q⟩⟩
theorem rt_not (h : RT X a uA) : RT X (.UnaryOp .Not a pos) (mNot uA) :=
  ⟨fun W tk => (pt_not (h.run W tk)).of fun σ H R ⟨C, fl, e, Q, WD, G, ht, k⟩ => ⟨C, fl, e, _, WD, G, ht, fun c e1 H1 R1 l1 q => k (!c) e1 H1 R1 l1 q⟩⟩
/-- .. as values (all True or False) -/
def mAndV (ta tb : ME) : ME := fun e Q W => ta e (fun x e1 => kB (fun k => if k = true then tb e1 Q W else Q (.bl false) e1) x) W
def mOrV (ta tb : ME) : ME := fun e Q W => ta e (fun x e1 => kB (fun k => if k = true then Q (.bl true) e1 else tb e1 Q W) x) W
def mNotV (ta : ME) : ME := fun e Q W => ta e (fun x e1 => kB (fun k => Q (.bl (!k)) e1) x) W
theorem re_one {op} {t : ME} (h : RE X a t) : RE X (.BoolOp op [a] pos) t := ⟨fun W tk => pe_one (h.run W tk)⟩
theorem re_and (ha : RE X a ta) (hb : RE X (.BoolOp .And (b :: rest) pos) tb) : RE X (.BoolOp .And (a :: b :: rest) pos) (mAndV ta tb) :=
  ⟨fun W tk => (pe_and (ha.run W tk) (hb.run W tk)).of fun σ H R ⟨C, fl, e, Q, WD, G, ht, k⟩ => ⟨C, fl, e, _, WD, G, ht, fun d e1 v H1 R1 l1 r q => by
    obtain ⟨c, rfl, hq⟩ := kB_of q
    refine ⟨c, r, ?_⟩
    cases c with
    | true => exact ⟨C, fl, e1, _, WD, G.to R1, hq, fun d e2 w H2 R2 l2 r2 q2 => k d e2 w H2 R2 (l1.trans l2) r2 q2⟩
    | false => exact k (.bl false) e1 (.bl false) H1 R1 l1 rfl hq⟩⟩
theorem re_or (ha : RE X a ta) (hb : RE X (.BoolOp .Or (b :: rest) pos) tb) : RE X (.BoolOp .Or (a :: b :: rest) pos) (mOrV ta tb) :=
  ⟨fun W tk => (pe_or (ha.run W tk) (hb.run W tk)).of fun σ H R ⟨C, fl, e, Q, WD, G, ht, k⟩ => ⟨C, fl, e, _, WD, G, ht, fun d e1 v H1 R1 l1 r q => by
    obtain ⟨c, rfl, hq⟩ := kB_of q
    refine ⟨c, r, ?_⟩
    cases c with
    | false => exact ⟨C, fl, e1, _, WD, G.to R1, hq, fun d e2 w H2 R2 l2 r2 q2 => k d e2 w H2 R2 (l1.trans l2) r2 q2⟩
    | true => exact k (.bl true) e1 (.bl true) H1 R1 l1 rfl hq⟩⟩
theorem re_not (ha : RE X a ta) : RE X (.UnaryOp .Not a pos) (mNotV ta) :=
  ⟨fun W tk => (pe_not (ha.run W tk)).of fun σ H R ⟨C, fl, e, Q, WD, G, ht, k⟩ => ⟨C, fl, e, _, WD, G, ht, fun d e1 v H1 R1 l1 r q => by
    obtain ⟨c, rfl, hq⟩ := kB_of q
    exact ⟨c, r, k (.bl (!c)) e1 (.bl (!c)) H1 R1 l1 rfl hq⟩⟩⟩
def mIf (t : MT) (ta tb : ME) : ME := fun e Q W => t e (fun k e1 => if k = true then ta e1 Q W else tb e1 Q W) W
theorem re_if {c : Expr} (hc : RT X c uA) (ha : RE X a ta) (hb : RE X b tb) : RE X (.IfExp c a b pos) (mIf uA ta tb) :=
  ⟨fun W tk => (pe_ifExp (hc.run W tk) (ha.run W tk) (hb.run W tk)).of fun σ H R ⟨C, fl, e, Q, WD, G, ht, k⟩ => ⟨C, fl, e, _, WD, G, ht, fun c e1 H1 R1 l1 q => by
    cases c with
    | true => exact ⟨C, fl, e1, _, WD, G.to R1, q, fun d e2 w H2 R2 l2 r2 q2 => k d e2 w H2 R2 (l1.trans l2) r2 q2⟩
    | false => exact ⟨C, fl, e1, _, WD, G.to R1, q, fun d e2 w H2 R2 l2 r2 q2 => k d e2 w H2 R2 (l1.trans l2) r2 q2⟩⟩⟩
/-! ### argument lists -/
def mNil : MA := fun e Q _ => Q [] e
def mCons (t : ME) (u : MA) : MA := fun e Q W => t e (fun x e1 => u e1 (fun xs e2 => Q (.d x :: xs) e2) W) W
/-- a name whose object is handed over to be changed -/
def isOwn : Option Slot → Prop → Prop
  | some (.own _ _), p => p
  | _, _ => False
theorem isOwn_of {o : Option Slot} {p : Prop} (h : isOwn o p) : ∃ a x, o = some (.own a x) ∧ p := by
  unfold isOwn at h
  split at h
  · exact ⟨_, _, rfl, h⟩
  · exact h.elim
def mConsIO (i : Nat) (u : MA) : MA := fun e Q W => isOwn e[i]? (u e (fun xs e2 => isOwn e2[i]? (Q (.io i :: xs) e2)) W)
theorem ra_nil : RA X [] 0 mNil := ⟨fun W tk => pa_nil.of fun σ H R ⟨C, fl, e, Q, WD, G, ht, k⟩ => k [] e [] H G.st .refl .nil rfl ht⟩
theorem ArgsR.later {fl : List Addr} {K : PySem.W.Frag} {M M' : Addr → Prop} {H H' : Hp} {e : En} (l : Later fl M H M' H') : ∀ {as : List Arg} {vs : List V}, ArgsR K M H e as vs → ArgsR K M' H' e as vs
  | _, _, .nil => .nil
  | .d x :: _, _, .cons r t => .cons (show Rep K M' H' x _ from Rep.later l r) (ArgsR.later l t)
  | .io i :: _, _, .cons r t => .cons r (ArgsR.later l t)
theorem ra_cons {e : Expr} {es : List Expr} {n : Nat} {t : ME} {u : MA} (h : RE X e t) (h2 : RA X es n u) (hs : starEach (e :: es) X.env = (false, eval e X.env) :: starEach es X.env := by rfl) : RA X (e :: es) (n + 1) (mCons t u) :=
  ⟨fun W tk => (pa_cons (h.run W tk) (h2.run W tk) hs).of fun σ H R ⟨C, fl, e, Q, WD, G, ht, k⟩ => ⟨C, fl, e, _, WD, G, ht, fun d e1 v H1 R1 l1 r q =>
    ⟨C, fl, e1, _, WD, G.to R1, q, fun as e2 vs H2 R2 l2 rs hn q2 => k (.d d :: as) e2 (v :: vs) H2 R2 (l1.trans l2) (.cons (show Rep X.K (Md C fl e2) H2 d v from Rep.later l2 r) rs) (by rw [List.length_cons, hn]) q2⟩⟩⟩
theorem ra_io {e : Expr} {es : List Expr} {i n : Nat} {u : MA} (h : PE X e (tVar i)) (h2 : RA X es n u) (hs : starEach (e :: es) X.env = (false, eval e X.env) :: starEach es X.env := by rfl) : RA X (e :: es) (n + 1) (mConsIO i u) :=
  ⟨fun W tk => (pa_cons h (h2.run W tk) hs).of fun σ H R ⟨C, fl, e, Q, WD, G, ht, k⟩ => by
    obtain ⟨a, x, q, ht⟩ := isOwn_of ht
    obtain ⟨e1, _⟩ := G.st.getO q
    refine ⟨.ref a, e1, C, fl, e, _, WD, G, ht, fun as e2 vs H2 R2 l2 rs hn q2 => ?_⟩
    obtain ⟨b, y, qb, q2⟩ := isOwn_of q2
    obtain ⟨e2', _⟩ := R2.getO qb
    have hab : a = b := by rw [e1] at e2'; cases e2'; rfl
    subst hab
    exact k (.io i :: as) e2 (.ref a :: vs) H2 R2 l2 (.cons ⟨a, y, qb, rfl⟩ rs) (by rw [List.length_cons, hn]) q2⟩
end
end DL
set_option maxHeartbeats 2000000
namespace DL
open PySem L2
theorem owns_append (l m : En) : owns (l ++ m) = owns l ++ owns m := List.filterMap_append
theorem owns_cons (s : Slot) (e : En) : owns (s :: e) = (ownA s).toList ++ owns e := by
  unfold owns
  rw [List.filterMap_cons]
  cases ownA s <;> rfl
theorem set_split {e : En} {i : Nat} (s : Slot) (h : i < e.length) : e.set i s = e.take i ++ s :: e.drop (i + 1) := by
  rw [List.set_eq_take_append_cons_drop, if_pos h]
theorem self_split {e : En} {i : Nat} (h : i < e.length) : e = e.take i ++ e[i] :: e.drop (i + 1) := by
  conv => lhs; rw [← List.take_append_drop i e, List.drop_eq_getElem_cons h]
theorem owns_set_own {e : En} {i : Nat} (a : Addr) (x : D) (h : i < e.length) : (owns (e.set i (.own a x))).Perm (a :: owns (e.set i .un)) := by
  rw [set_split _ h, set_split _ h, owns_append, owns_append, owns_cons, owns_cons]
  show (owns (e.take i) ++ (a :: owns (e.drop (i + 1)))).Perm (a :: (owns (e.take i) ++ owns (e.drop (i + 1))))
  exact List.perm_middle
theorem ownOf {e : En} {i : Nat} {a : Addr} {x : D} (h : e[i]? = some (.own a x)) : a ∈ owns e := mem_owns.mpr ⟨i, x, h⟩
/-- a floating object gets a name -/
theorem StR.setO {C : Cn} {fl : List Addr} {σ : L2.St} {H : Hp} {e : En} {a : Addr} {d : D} (R : StR C (a :: fl) σ H e) {i : Nat} (hi : i < e.length) (o : Own C.K (Md C (a :: fl) e) H d a) :
    StR C fl (σ.set i (some (.ref a))) H (e.set i (.own a d)) := by
  have pm := owns_set_own (e := e) (i := i) a d hi
  have sub := owns_set_sub (e := e) (i := i) (s := .un) rfl
  have less : ∀ b, Md C fl (e.set i (.own a d)) b → Md C (a :: fl) e b := fun b x => by
    rcases x with x | x | x
    · exact .inl x
    · rcases List.mem_cons.mp (pm.mem_iff.mp x) with rfl | x
      · exact .inr (.inr List.mem_cons_self)
      · exact .inr (.inl (sublist_mem sub x))
    · exact .inr (.inr (List.mem_cons_of_mem _ x))
  refine ⟨by rw [List.length_set, List.length_set]; exact R.len, fun j s hj => ?_, ?_, fun b h => R.al b (less b h), fun b h => ?_, R.keep, R.iot⟩
  · by_cases q : j = i
    · subst q
      rw [List.getElem?_set_self hi] at hj
      obtain rfl := Option.some.inj hj
      rw [List.getElem?_set_self (by rw [← R.len]; exact hi)]
      exact ⟨rfl, o.later (.same less) rfl⟩
    · rw [List.getElem?_set_ne (Ne.symm q)] at hj ⊢
      exact (R.sl j s hj).later (.same less) fun _ _ _ => rfl
  · have n1 : ((owns (e.set i .un)) ++ a :: fl).Nodup := (sub.append (List.Sublist.refl (a :: fl))).nodup R.nd
    refine ((pm.append (List.Perm.refl fl)).nodup_iff).mpr ?_
    exact (List.perm_middle.nodup_iff).mp n1
  · rcases h with h | h
    · rcases List.mem_cons.mp (pm.mem_iff.mp h) with rfl | h
      · exact R.new b (.inr List.mem_cons_self)
      · exact R.new b (.inl (sublist_mem sub h))
    · exact R.new b (.inr (List.mem_cons_of_mem _ h))
theorem owns_set_same {e : En} {i : Nat} {a : Addr} {x y : D} (h : e[i]? = some (.own a x)) : owns (e.set i (.own a y)) = owns e := by
  have hi : i < e.length := (List.getElem?_eq_some_iff.mp h).1
  have hx : e[i] = .own a x := (List.getElem?_eq_some_iff.mp h).2
  conv => rhs; rw [self_split hi, hx]
  rw [set_split _ hi, owns_append, owns_append, owns_cons, owns_cons]
  rfl
/-- what is owned is changed -/
theorem StR.put {C : Cn} {fl : List Addr} {σ : L2.St} {H : Hp} {e : En} (R : StR C fl σ H e) {i : Nat} {a : Addr} {x y : D} {o : HO} (h : e[i]? = some (.own a x)) (m : MutO o)
    (w : Own C.K (Md C fl e) (upd H a o) y a) : StR C fl σ (upd H a o) (e.set i (.own a y)) ∧ Later fl (Md C fl e) H (Md C fl (e.set i (.own a y))) (upd H a o) := by
  have ow := owns_set_same (y := y) h
  have hm : Md C fl e a := .inr (.inl (ownOf h))
  obtain ⟨oa, hoa, ma⟩ := R.al a hm
  have eM : ∀ b, Md C fl (e.set i (.own a y)) b ↔ Md C fl e b := fun b => by unfold Md; rw [ow]
  have l : Later fl (Md C fl e) H (Md C fl (e.set i (.own a y))) (upd H a o) := ⟨fun b q => .inl ((eM b).mp q), fun b u hb n => by
    rw [upd_ne fun z => ?_]
    · exact hb
    · subst z
      rw [hoa] at hb; cases hb
      rcases n with n | n
      · exact n hm
      · exact n ma, fun b hb => upd_ne fun z => (List.nodup_append.mp R.nd).2.2 a (ownOf h) b hb z.symm⟩
  have hi : i < e.length := (List.getElem?_eq_some_iff.mp h).1
  refine ⟨⟨by rw [List.length_set]; exact R.len, fun j s hj => ?_, by rw [ow]; exact R.nd, fun b q => ?_, fun b q => by rw [ow] at q; exact R.new b q, fun b u hb n => ?_, fun b q => ?_⟩, l⟩
  · by_cases q : j = i
    · subst q
      rw [List.getElem?_set_self hi] at hj
      obtain rfl := Option.some.inj hj
      obtain ⟨e1, _⟩ := R.getO h
      exact ⟨join_some.mpr e1, w.later (.same fun b q => (eM b).mp q) rfl⟩
    · rw [List.getElem?_set_ne (Ne.symm q)] at hj
      refine (R.sl j s hj).later l fun b z hb => ?_
      subst hb
      exact upd_ne fun z => q (owns_nodup_ix (List.nodup_append.mp R.nd).1 hj (z ▸ h))
  · by_cases z : b = a
    · subst z
      exact ⟨o, upd_same, m⟩
    · rw [upd_ne z]
      exact R.al b ((eM b).mp q)
  · rw [upd_ne fun z => ?_]
    · exact R.keep b u hb n
    · subst z
      rcases R.new b (.inl (ownOf h)) with q | q
      · exact n q
      · rw [hb] at q; cases q
  · by_cases z : b = a
    · subst z
      exact ⟨o, upd_same⟩
    · rw [upd_ne z]
      exact R.iot b q
theorem Reps.laterP {K : PySem.W.Frag} {M : Addr → Prop} {H : Hp} {a : Addr} {o : HO} (hm : M a) (m : ∃ u, H a = some u ∧ MutO u) {ds : List D} {vs : List V} (h : Reps K M H ds vs) : Reps K M (upd H a o) ds vs := by
  obtain ⟨u, hu, mu⟩ := m
  refine Reps.later (fl := []) ⟨fun _ x => .inl x, fun b w hb n => ?_, (fun _ z => nomatch z)⟩ h
  rw [upd_ne fun z => ?_]
  · exact hb
  · subst z
    rw [hu] at hb; cases hb
    rcases n with n | n
    · exact n hm
    · exact n mu
theorem later_put {M : Addr → Prop} {H : Hp} {a : Addr} {o : HO} (hm : M a) (m : ∃ u, H a = some u ∧ MutO u) : Later [] M H M (upd H a o) := by
  obtain ⟨u, hu, mu⟩ := m
  refine ⟨fun _ x => .inl x, fun b w hb n => ?_, (fun _ z => nomatch z)⟩
  rw [upd_ne fun z => ?_]
  · exact hb
  · subst z
    rw [hu] at hb; cases hb
    rcases n with n | n
    · exact n hm
    · exact n mu
section
variable {X : Cx} {pos pos' : Pos} {e : Expr} {t : ME} {st : Stmt} {rest : List Stmt} {u w : MS} {c : MT}
/-! ### blocks -/
def mSkip : MS := fun MD e _ => MD.nx e
def mSeq (t u : MS) : MS := fun MD e W => t { MD with nx := fun e1 => u MD e1 W } e W
def mBreak : MS := fun MD e _ => MD.bk e
def mCont : MS := fun MD e _ => MD.ct e
def mNever : MS := fun _ _ _ => False
theorem rss_nil : RSs X [] mSkip := ⟨fun W tk => pss_nil.of fun D σ H ⟨C, e, MD, WD, G, ht, n, r, b, c⟩ => n e σ H G.st ht⟩
theorem rss_cons (h1 : RS X st u) (h2 : RSs X rest w) : RSs X (st :: rest) (mSeq u w) := ⟨fun W tk => (pss_cons (h1.run W tk) (h2.run W tk)).of fun D σ H ⟨C, e, MD, WD, G, ht, n, r, b, c⟩ =>
  ⟨C, e, _, WD, G, ht, fun e1 σ1 H1 R1 q => ⟨C, e1, MD, WD, G.to R1, q, n, r, b, c⟩, r, b, c⟩⟩
theorem rss_one (h1 : RS X st u) : RSs X [st] u := ⟨fun W tk => pss_one (h1.run W tk)⟩
theorem rs_pass : RS X (.Pass pos) mSkip := ⟨fun W tk => ps_pass.of fun D σ H ⟨C, e, MD, WD, G, ht, n, r, b, c⟩ => n e σ H G.st ht⟩
theorem rs_break : RS X (.Break pos) mBreak := ⟨fun W tk => ps_break.of fun D σ H ⟨C, e, MD, WD, G, ht, n, r, b, c⟩ => b e σ H G.st ht⟩
theorem rs_cont : RS X (.Continue pos) mCont := ⟨fun W tk => ps_continue.of fun D σ H ⟨C, e, MD, WD, G, ht, n, r, b, c⟩ => c e σ H G.st ht⟩
theorem rs_never : RS X st mNever := ⟨fun W tk => ps_never.of fun D σ H ⟨C, e, MD, WD, G, ht, n, r, b, c⟩ => ht⟩
theorem rss_never : RSs X rest mNever := ⟨fun W tk => pss_never.of fun D σ H ⟨C, e, MD, WD, G, ht, n, r, b, c⟩ => ht⟩
def mIfS (c : MT) (t u : MS) : MS := fun MD e W => c e (fun k e1 => if k = true then t MD e1 W else u MD e1 W) W
theorem rs_if {e : Expr} {a b : List Stmt} (hc : RT X e c) (ha : RSs X a u) (hb : RSs X b w) : RS X (.If e a b pos) (mIfS c u w) := ⟨fun W tk => (ps_if (hc.run W tk) (ha.run W tk) (hb.run W tk)).of fun D σ H ⟨C, e, MD, WD, G, ht, n, r, bk, ct⟩ =>
  ⟨C, [], e, _, WD, G, ht, fun k e1 H1 R1 l q => by
    cases k with
    | true => exact ⟨C, e1, MD, WD, G.to R1, q, n, r, bk, ct⟩
    | false => exact ⟨C, e1, MD, WD, G.to R1, q, n, r, bk, ct⟩⟩⟩
/-- a word between a statement and what follows: what follows is shown once -/
def mCut (t u : MS) : MS := fun MD e W => ∃ Mid : En → Prop, t { MD with nx := Mid } e W ∧ ∀ e1, Mid e1 → u MD e1 W
theorem rss_cut (h1 : RS X st u) (h2 : RSs X rest w) : RSs X (st :: rest) (mCut u w) := ⟨fun W tk => (pss_cons (h1.run W tk) (h2.run W tk)).of fun D σ H ⟨C, e, MD, WD, G, ⟨Mid, h, k⟩, n, r, b, c⟩ => by
  exact ⟨C, e, { MD with nx := Mid }, WD, G, h, fun e1 σ1 H1 R1 q => ⟨C, e1, MD, WD, G.to R1, k e1 q, n, r, b, c⟩, r, b, c⟩⟩
/-! ### names are set -/
def mSet (i : Nat) (t : ME) : MS := fun MD e W => t e (fun x e1 => MD.nx (e1.set i (.d x))) W
def mSetF (i : Nat) (t : ME) : MS := fun MD e W => t e (fun x e1 => ∀ a, a ∉ owns e1 → MD.nx (e1.set i (.own a x))) W
theorem rs_set {i : Nat} {x : Str} (hN : X.N.Nodup) (hi : X.N[i]? = some x) (hx : Loc X.env.scope x) (he : RE X e t) (hs : swapsWith e (some (.Name x pos')) pos.line X.env = pure false := by rfl)
    (hf : X.fn x = true ∨ X.env.scope.names.lookup x = some .local := by first | exact .inl rfl | exact .inr rfl | assumption) : RS X (.Assign [.Name x pos'] e pos) (mSet i t) :=
  ⟨fun W tk => (ps_set hN hi hx (he.run W tk) hs hf).of fun D σ H ⟨C, e, MD, WD, G, ht, n, r, bk, ct⟩ => ⟨C, [], e, _, WD, G, ht, fun d e1 v H1 R1 l rp q => by
    have rp' : Rep C.K (Md C [] e1) H1 d v := by rw [G.k]; exact rp
    exact n _ _ _ (R1.setD rp') q⟩⟩
theorem rs_setF {i : Nat} {x : Str} (hN : X.N.Nodup) (hi : X.N[i]? = some x) (hx : Loc X.env.scope x) (he : RF X e t) (hs : swapsWith e (some (.Name x pos')) pos.line X.env = pure false := by rfl)
    (hf : X.fn x = true ∨ X.env.scope.names.lookup x = some .local := by first | exact .inl rfl | exact .inr rfl | assumption) : RS X (.Assign [.Name x pos'] e pos) (mSetF i t) :=
  ⟨fun W tk => (ps_set hN hi hx (he.run W tk) hs hf).of fun D σ H ⟨C, e, MD, WD, G, ht, n, r, bk, ct⟩ => ⟨C, [], e, _, WD, G, ht, fun d e1 a H1 R1 l o q => by
    have o' : Own C.K (Md C [a] e1) H1 d a := by rw [G.k]; exact o
    have na : a ∉ owns e1 := fun z => (List.nodup_append.mp R1.nd).2.2 a z a List.mem_cons_self rfl
    by_cases hl : i < e1.length
    · exact n _ _ _ (R1.setO hl o') (q a na)
    · have hs1 : e1.set i (.own a d) = e1 := List.set_eq_of_length_le (by omega)
      have hs2 : σ.set i (some (.ref a)) = σ := List.set_eq_of_length_le (by rw [← R1.len]; omega)
      have q' := q a na
      rw [hs1] at q'
      show D.nx (σ.set i (some (.ref a))) H1
      rw [hs2]
      exact n _ _ _ (R1.land G.ok).1 q'⟩⟩
/-! ### results -/
def mRet (t : ME) : MS := fun MD e W => t e (fun x e1 => MD.rt (.d x) e1) W
def mRetF (t : ME) : MS := fun MD e W => t e (fun x e1 => ∀ a, a ∉ owns e1 → MD.rt (.own a x) e1) W
def mRetN : MS := fun MD e _ => MD.rt (.d .non) e
theorem rs_ret (he : RE X e t) : RS X (.Return (some e) pos) (mRet t) := ⟨fun W tk => (ps_ret (he.run W tk)).of fun D σ H ⟨C, e, MD, WD, G, ht, n, r, bk, ct⟩ => ⟨C, [], e, _, WD, G, ht, fun d e1 v H1 R1 l rp q => by
  have rp' : Rep C.K (Md C [] e1) H1 d v := by rw [G.k]; exact rp
  exact r (.d d) e1 v σ H1 ⟨R1, rp'⟩ q⟩⟩
theorem rs_retF (he : RF X e t) : RS X (.Return (some e) pos) (mRetF t) := ⟨fun W tk => (ps_ret (he.run W tk)).of fun D σ H ⟨C, e, MD, WD, G, ht, n, r, bk, ct⟩ => ⟨C, [], e, _, WD, G, ht, fun d e1 a H1 R1 l o q => by
  have o' : Own C.K (Md C [a] e1) H1 d a := by rw [G.k]; exact o
  have na : a ∉ owns e1 := fun z => (List.nodup_append.mp R1.nd).2.2 a z a List.mem_cons_self rfl
  exact r (.own a d) e1 (.ref a) σ H1 ⟨R1, rfl, o'⟩ (q a na)⟩⟩
theorem rs_retN : RS X (.Return none pos) mRetN := ⟨fun W tk => ps_retN.of fun D σ H ⟨C, e, MD, WD, G, ht, n, r, bk, ct⟩ => r (.d .non) e .non σ H ⟨G.st, rfl⟩ ht⟩
/-- an owned local is handed back for good -/
def mRetO (i : Nat) (io : List Nat) : MS := fun MD e _ => match e[i]? with
  | some (.own a x) => (∀ j ∈ io, ∀ b y, e[j]? = some (.own b y) → a ≠ b) ∧ MD.rt (.own a x) (e.set i .un)
  | _ => False
/-! ### an expression alone -/
def mDrop (t : ME) : MS := fun MD e W => t e (fun _ e1 => MD.nx e1) W
theorem rs_expr (he : RE X e t) (hs : swapsWith e none pos.line X.env = pure false := by rfl) : RS X (.Expr e pos) (mDrop t) := ⟨fun W tk => (ps_expr (he.run W tk) hs).of fun D σ H ⟨C, e, MD, WD, G, ht, n, r, bk, ct⟩ =>
  ⟨C, [], e, _, WD, G, ht, fun d e1 v H1 R1 l rp q => n _ _ _ R1 q⟩⟩
theorem rs_doc {x j} : RS X (.Expr (.Constant (.str x) j pos) pos') mSkip := ⟨fun W tk => ps_doc.of fun D σ H ⟨C, e, MD, WD, G, ht, n, r, b, c⟩ => n e σ H G.st ht⟩
/-! ### an owned list is changed -/
def lstO : Option Slot → (Addr → List D → Prop) → Prop
  | some (.own a (.lst ds)), k => k a ds
  | _, _ => False
theorem lstO_of {o : Option Slot} {k : Addr → List D → Prop} (h : lstO o k) : ∃ a ds, o = some (.own a (.lst ds)) ∧ k a ds := by
  unfold lstO at h
  split at h
  · exact ⟨_, _, rfl, h⟩
  · exact h.elim
def mApp (i : Nat) (t : ME) : MS := fun MD e W => lstO e[i]? fun _ _ => t e (fun y e1 => lstO e1[i]? fun a ds => ds.length < sizeLine ∧ MD.nx (e1.set i (.own a (.lst (ds ++ [y]))))) W
theorem rs_app {o : Expr} {i : Nat} {apos cpos : Pos} (ho : PE X o (tVar i)) (he : RE X e t) (hbase : attributeBase o "append" X.env (eval o X.env) = eval o X.env := by rfl)
    (hfew : ((backTo cpos (starEach (e :: []) X.env)).all (fun x => !x.1) && (backToKw cpos (keywordEach [] X.env)).all (fun x => x.1.isSome)
      && decide ((e :: []).length + ([] : List Keyword).length + (if ([] : List Keyword).isEmpty then 0 else 1) < 30)) = true := by rfl)
    (hline : (apos.endLine == cpos.line) = true := by rfl) (hs : starEach (e :: []) X.env = (false, eval e X.env) :: starEach [] X.env := by rfl)
    (hsw : swapsWith (.Call (.Attribute o "append" apos) [e] [] cpos) none pos.line X.env = pure false := by rfl) :
    RS X (.Expr (.Call (.Attribute o "append" apos) [e] [] cpos) pos) (mApp i t) :=
  ⟨fun W tk => (ps_expr (pe_bm PySem.F.plainAttrs_list PySem.F.slot_list_append PySem.F.type_list_append mt_append ho (pa_cons (he.run W tk) pa_nil hs) hbase hfew hline hs) hsw).of fun D σ H ⟨C, e, MD, WD, G, ht, n, r, bk, ct⟩ => by
    obtain ⟨a, ds, q, ht⟩ := lstO_of ht
    obtain ⟨e1, vs, hv, _⟩ := G.st.getO q
    refine ⟨.ref a, e1, .inl ⟨rfl, vs, SqL.of hv⟩, C, [], e, _, WD, G, ht, fun d e2 v H2 R2 l rp q2 => ?_⟩
    obtain ⟨b, ds2, qb, hz, q2⟩ := lstO_of q2
    obtain ⟨e2', ws, hw, rw_⟩ := R2.getO qb
    have hab : a = b := by rw [e1] at e2'; cases e2'; rfl
    subst hab
    have hm : Md C [] e2 a := .inr (.inl (ownOf qb))
    have rp' : Rep C.K (Md C [] e2) H2 d v := by rw [G.k]; exact rp
    refine ⟨a, ws, v, rfl, rfl, hw, by rw [← rw_.length]; exact hz, ?_⟩
    refine n _ _ _ (R2.put (o := .lst (ws ++ [v])) (y := .lst (ds2 ++ [d])) qb trivial ⟨_, upd_same, ?_⟩).1 q2
    exact (Reps.append rw_ (.cons rp' .nil)).laterP hm ⟨_, hw, trivial⟩⟩
end
end DL
set_option maxHeartbeats 2000000
namespace DL
open PySem L2
section
open Classical
/-- the ground moved up to a heap: what is not owned there stands from now on -/
noncomputable def Cn.up (C : Cn) (e : En) (H : Hp) : Cn := ⟨C.K, C.M0, fun b => if Md C [] e b then C.H0 b else H b, C.io.filter fun b => decide (b ∈ owns e)⟩
theorem up_H0 {C : Cn} {e : En} {H : Hp} {b : Addr} (n : ¬ Md C [] e b) : (C.up e H).H0 b = H b := by
  show (if Md C [] e b then C.H0 b else H b) = _
  rw [if_neg n]
theorem up_H0o {C : Cn} {e : En} {H : Hp} {b : Addr} (n : Md C [] e b) : (C.up e H).H0 b = C.H0 b := by
  show (if Md C [] e b then C.H0 b else H b) = _
  rw [if_pos n]
end
theorem up_io {C : Cn} {e : En} {H : Hp} {b : Addr} : b ∈ (C.up e H).io ↔ b ∈ C.io ∧ b ∈ owns e := by
  unfold Cn.up
  rw [List.mem_filter]
  simp
theorem StR.up {C : Cn} {σ : L2.St} {H : Hp} {e : En} (c : CnOk C) (R : StR C [] σ H e) :
    StR (C.up e H) [] σ H e ∧ CnOk (C.up e H) ∧ (∀ fl σ2 H2 e2, StR (C.up e H) fl σ2 H2 e2 → StR C fl σ2 H2 e2) ∧ ∀ fl σ2 H2 e2, StR (C.up e H) fl σ2 H2 e2 → Later [] (Md C [] e) H (Md C fl e2) H2 := by
  have kp : ∀ {b o}, C.H0 b = some o → b ∉ C.io → (C.up e H).H0 b = some o := fun {b o} hb n => by
    by_cases z : Md C [] e b
    · rw [up_H0o z]; exact hb
    · rw [up_H0 z]; exact R.keep b o hb n
  refine ⟨⟨R.len, R.sl, R.nd, R.al, fun a h => ?_, fun b o hb n => ?_, fun b hb => R.iot b (up_io.mp hb).1⟩, ⟨fun a ha => ⟨fun z => (c.m0 a ha).1 (up_io.mp z).1, ?_⟩⟩, fun fl σ2 H2 e2 R2 => ?_, fun fl σ2 H2 e2 R2 => ?_⟩
  · have hm : Md C [] e a := by
      rcases h with h | h
      · exact .inr (.inl h)
      · cases h
    have ho : a ∈ owns e := by
      rcases h with h | h
      · exact h
      · cases h
    rcases R.new a h with q | q
    · exact .inl (up_io.mpr ⟨q, ho⟩)
    · exact .inr (by rw [up_H0o hm]; exact q)
  · by_cases z : Md C [] e b
    · rw [up_H0o z] at hb
      refine R.keep b o hb fun zi => ?_
      by_cases zo : b ∈ owns e
      · exact n (up_io.mpr ⟨zi, zo⟩)
      · rcases z with z | z | z
        · exact (c.m0 b z).1 zi
        · exact zo z
        · cases z
    · rw [up_H0 z] at hb
      exact hb
  · obtain ⟨n, o, ho, m⟩ := c.m0 a ha
    exact ⟨o, kp ho n, m⟩
  · refine ⟨R2.len, R2.sl, R2.nd, R2.al, fun a h => ?_, fun b o hb n => R2.keep b o (kp hb n) fun z => n (up_io.mp z).1, fun b hb => ?_⟩
    · rcases R2.new a h with q | q
      · exact .inl (up_io.mp q).1
      · by_cases zi : a ∈ C.io
        · exact .inl zi
        · refine .inr ?_
          cases z : C.H0 a with
          | none => rfl
          | some o => rw [kp z zi] at q; cases q
    · by_cases z : b ∈ owns e
      · exact R2.iot b (up_io.mpr ⟨hb, z⟩)
      · obtain ⟨o, ho⟩ := R.iot b hb
        refine ⟨o, R2.keep b o ?_ fun zz => z (up_io.mp zz).2⟩
        rw [up_H0 fun zz => ?_]
        · exact ho
        · rcases zz with zz | zz | zz
          · exact (c.m0 b zz).1 hb
          · exact z zz
          · cases zz
  · refine ⟨fun a h => ?_, fun b o hb n => ?_, (fun _ z => nomatch z)⟩
    · rcases h with h | h
      · exact .inl (.inl h)
      · have h' : a ∈ owns e2 ∨ a ∈ fl := h
        rcases R2.new a h' with q | q
        · exact .inl (.inr (.inl (up_io.mp q).2))
        · by_cases z : Md C [] e a
          · exact .inl z
          · rw [up_H0 z] at q
            exact .inr q
    · have z : ¬ Md C [] e b := fun z => by
        obtain ⟨o', ho', m⟩ := R.al b z
        rw [hb] at ho'; cases ho'
        rcases n with n | n
        · exact n z
        · exact n m
      refine R2.keep b o (by rw [up_H0 z]; exact hb) fun zi => z (.inr (.inl (up_io.mp zi).2))
/-! ### what is walked: a list of data -/
structure ItOk (K : PySem.W.Frag) (J : It) (ds : List D) (M : Addr → Prop) (H : Hp) : Prop where
  go : ∀ M2 H2, Later [] M H M2 H2 → ∀ (i : Nat) (d : D), ds[i]? = some d → J.go i H2 ∧ ∀ x H3, J.yld i H2 x H3 → (∀ b o, H2 b = some o → H3 b = some o) ∧ Rep K M2 H3 d x
  stop : ∀ M2 H2, Later [] M H M2 H2 → J.stop ds.length H2
abbrev MI := En → (List D → En → Prop) → WE → Prop
def cI (K : PySem.W.Frag) (W : WX) (t : MI) : TI := fun σ H R => ∃ C fl e Q WD, Gd K W C fl σ H e WD ∧ t e Q WD ∧
  ∀ ds e' H' J, StR C fl σ H' e' → Later fl (Md C fl e) H (Md C fl e') H' → ItOk K J ds (Md C fl e') H' → Q ds e' → R J H'
structure RI (X : Cx) (tg iter : Expr) (t : MI) : Prop where
  run : ∀ W, Takes X W → PI X tg iter (cI X.K W t)
theorem _root_.L2.PI.of {X : Cx} {tg e : Expr} {t u : TI} (h : PI X tg e t) (i : ∀ σ H Q, u σ H Q → t σ H Q) : PI X tg e u := ⟨fun pins s σ H Q I w => h.run pins s σ H Q I (i _ _ _ w)⟩
/-- a list or a tuple, whichever comes -/
def iSeq (K : PySem.W.Frag) (tl : TE) : TI := fun σ H R => tl σ H fun x H1 => ∃ a, x = .ref a ∧ (((∃ xs, SqL K H1 a xs) ∧ R (Itl K a) H1) ∨ ((∃ xs, SqT K H1 a xs) ∧ R (Itt K a) H1))
theorem pi_seq {X : Cx} {tg l : Expr} {tl : TE} (hl : PE X l tl) : PI X tg l (iSeq X.K tl) := by
  refine ⟨fun pins s σ H R I h => ?_⟩
  refine thn (hl.run pins s σ H _ I h) fun v s1 ⟨x, H1, I1, r1, q1⟩ => ?_
  obtain ⟨a, e, q1⟩ := q1
  subst e
  cases r1
  rcases q1 with ⟨⟨xs, hq⟩, q⟩ | ⟨⟨xs, hq⟩, q⟩
  · obtain ⟨its, rv, p, hz⟩ := I1.list hq
    refine wpAny_pyIter_list p.isList ?_
    refine ⟨s1.heap.objs.size, [s1.heap.objs.size], _, _, H1, rfl, I1.kept (t' := s1.toks) fun b o e => Heap.get?_push_of_some _ e, turn_list a _, ⟨_, Heap.get?_push_size _ rfl, rfl, rfl⟩, fun b hb => ?_, q⟩
    have e : b = s1.heap.objs.size := by simpa using hb
    subst e
    exact I1.fpOk (Nat.le_refl _) (I1.hok.fresh (Nat.le_refl _))
  · obtain ⟨its, rv, p, hz⟩ := I1.tuple hq
    refine wpAny_pyIter_tuple (show s1.heap.IsTuple a its.toArray from p) ?_
    refine ⟨s1.heap.objs.size, [s1.heap.objs.size], _, _, H1, rfl, I1.kept (t' := s1.toks) fun b o e => Heap.get?_push_of_some _ e, turn_tuple a _, ⟨_, Heap.get?_push_size _ rfl, rfl, rfl⟩, fun b hb => ?_, q⟩
    have e : b = s1.heap.objs.size := by simpa using hb
    subst e
    exact I1.fpOk (Nat.le_refl _) (I1.hok.fresh (Nat.le_refl _))
/-- the items of a sequence -/
def sqD : D → (List D → Prop) → Prop
  | .lst ds, k => k ds
  | .tup ds, k => k ds
  | .scr ds, k => k ds
  | _, _ => False
section
variable {K : PySem.W.Frag} {M : Addr → Prop} {H : Hp}
theorem Rep.sq {d : D} {v : V} {k : List D → Prop} (h : Rep K M H d v) (q : sqD d k) : ∃ a ds vs, v = .ref a ∧ Reps K M H ds vs ∧ k ds ∧ ((SqL K H a vs ∧ ((¬ M a ∧ H a = some (.lst vs)) ∨ (∃ o, H a = some (.frz o (.lst vs))) ∨ Wr K a vs)) ∨ SqT K H a vs) := by
  cases d with
  | lst ds => obtain ⟨a, vs, e, n, h1, r⟩ := h; exact ⟨a, ds, vs, e, r, q, .inl ⟨SqL.of h1, .inl ⟨n, h1⟩⟩⟩
  | tup ds => obtain ⟨a, vs, e, h1, r⟩ := h; exact ⟨a, ds, vs, e, r, q, .inr h1⟩
  | scr ds =>
    obtain ⟨a, vs, e, h1, r⟩ := h
    refine ⟨a, ds, vs, e, r, q, .inl ⟨?_, .inr h1⟩⟩
    rcases h1 with ⟨o, h1⟩ | h1
    · exact .inl (.inr ⟨o, h1⟩)
    · exact .inr h1
  | _ => exact q.elim
end
theorem itOk_list {K : PySem.W.Frag} {M : Addr → Prop} {H : Hp} {a : Addr} {ds : List D} {vs : List V} (r : Reps K M H ds vs) (h : ∀ M2 H2, Later [] M H M2 H2 → SqL K H2 a vs) : ItOk K (Itl K a) ds M H where
  go := fun M2 H2 l i d hd => by
    have hq := h M2 H2 l
    obtain ⟨v, hv, rv⟩ := r.get hd
    exact ⟨⟨vs, v, hq, hv⟩, fun x H3 y => by
      obtain ⟨e, y⟩ := y
      subst e
      obtain rfl : v = x := Option.some.inj (hv.symm.trans (y vs hq))
      exact ⟨fun _ _ z => z, rv.later l⟩⟩
  stop := fun M2 H2 l => ⟨vs, h M2 H2 l, by rw [r.length]; exact Nat.le_refl _⟩
theorem itOk_tup {K : PySem.W.Frag} {M : Addr → Prop} {H : Hp} {a : Addr} {ds : List D} {vs : List V} (r : Reps K M H ds vs) (h : ∀ M2 H2, Later [] M H M2 H2 → SqT K H2 a vs) : ItOk K (Itt K a) ds M H where
  go := fun M2 H2 l i d hd => by
    have hq := h M2 H2 l
    obtain ⟨v, hv, rv⟩ := r.get hd
    exact ⟨⟨vs, v, hq, hv⟩, fun x H3 y => by
      obtain ⟨e, y⟩ := y
      subst e
      obtain rfl : v = x := Option.some.inj (hv.symm.trans (y vs hq))
      exact ⟨fun _ _ z => z, rv.later l⟩⟩
  stop := fun M2 H2 l => ⟨vs, h M2 H2 l, by rw [r.length]; exact Nat.le_refl _⟩
def mSeqI (t : ME) : MI := fun e Q W => t e (fun x e1 => sqD x fun ds => Q ds e1) W
theorem ri_seq {X : Cx} {tg l : Expr} {t : ME} (h : RE X l t) : RI X tg l (mSeqI t) := ⟨fun W tk => (pi_seq (h.run W tk)).of fun σ H R ⟨C, fl, e, Q, WD, G, ht, k⟩ => ⟨C, fl, e, _, WD, G, ht, fun d e1 v H1 R1 l1 r q => by
  obtain ⟨a, ds, vs, rfl, rs, hk, hh⟩ := Rep.sq r q
  refine ⟨a, rfl, ?_⟩
  rcases hh with ⟨hs, hh⟩ | hh
  · refine .inl ⟨⟨vs, hs⟩, k ds e1 H1 _ R1 l1 (itOk_list rs fun M2 H2 l2 => ?_) hk⟩
    rcases hh with ⟨n, hh⟩ | ⟨o, hh⟩ | hh
    · exact SqL.of (l2.keep _ _ hh (.inl n))
    · exact .inl (.inr ⟨o, l2.keep _ _ hh (.inr fun z => z)⟩)
    · exact .inr hh
  · exact .inr ⟨⟨vs, hh⟩, k ds e1 H1 _ R1 l1 (itOk_tup rs fun M2 H2 l2 => l2.sqT hh) hk⟩⟩⟩
/-- range(n), range(a, b) -/
def rngD (lo : Int) (n : Nat) : List D := (List.range n).map fun (i : Nat) => D.int (lo + (i : Int))
theorem itOk_rng {K : PySem.W.Frag} {M : Addr → Prop} {H : Hp} (lo : Int) (n : Nat) : ItOk K (Itr lo n) (rngD lo n) M H where
  go := fun M2 H2 l i d hd => by
    unfold rngD at hd
    rw [List.getElem?_map] at hd
    cases q : (List.range n)[i]? with
    | none => rw [q] at hd; cases hd
    | some j =>
      rw [q] at hd
      obtain ⟨hlt, e⟩ := List.getElem?_eq_some_iff.mp q
      rw [List.length_range] at hlt
      rw [List.getElem_range] at e
      subst e
      obtain rfl : D.int (lo + (i : Int)) = d := Option.some.inj hd
      exact ⟨hlt, fun x H3 y => by
        obtain ⟨e, rfl⟩ := y
        subst e
        exact ⟨fun _ _ z => z, rfl⟩⟩
  stop := fun M2 H2 l => by
    show n ≤ (rngD lo n).length
    unfold rngD
    rw [List.length_map, List.length_range]
    exact Nat.le_refl _
def kI (Q : Int → Prop) : D → Prop
  | .int i => Q i
  | _ => False
theorem kI_of {Q : Int → Prop} {x : D} (h : kI Q x) : ∃ i, x = .int i ∧ Q i := by
  cases x <;> first | exact h.elim | exact ⟨_, rfl, h⟩
def mRng1 (t : ME) : MI := fun e Q W => t e (fun x e1 => kI (fun n => n < 2 ^ 62 ∧ -(2 ^ 62) ≤ n ∧ Q (rngD 0 n.toNat) e1) x) W
def mRng2 (ta tb : ME) : MI := fun e Q W => ta e (fun x e1 => tb e1 (fun y e2 => kI (fun i => kI (fun j => (-(2 ^ 62) ≤ i ∧ i < 2 ^ 62 ∧ -(2 ^ 62) ≤ j ∧ j < 2 ^ 62) ∧ Q (rngD i (j - i).toNat) e2) y) x) W) W
section
variable {X : Cx} {tg : Expr}
theorem ri_rng1 {a : Expr} {t : ME} {p pos : Pos} (hg : Gl X "range") (hm : X.mg "range" = none) (ha : RE X a t) (hs : starEach [a] X.env = [(false, eval a X.env)] := by rfl) : RI X tg (.Call (.Name "range" p) [a] [] pos) (mRng1 t) :=
  ⟨fun W tk => (pi_range1 hg hm (pa_cons (ha.run W tk) pa_nil hs) hs).of fun σ H R ⟨C, fl, e, Q, WD, G, ht, k⟩ => ⟨C, fl, e, _, WD, G, ht, fun d e1 v H1 R1 l1 r q => by
    obtain ⟨n, rfl, h1, h2, hq⟩ := kI_of q
    obtain rfl : v = .int n := r
    exact ⟨n, rfl, h2, h1, k _ e1 H1 _ R1 l1 (itOk_rng 0 n.toNat) hq⟩⟩⟩
theorem ri_rng2 {a b : Expr} {ta tb : ME} {p pos : Pos} (hg : Gl X "range") (hm : X.mg "range" = none) (ha : RE X a ta) (hb : RE X b tb) (hs : starEach [a, b] X.env = [(false, eval a X.env), (false, eval b X.env)] := by rfl)
    (hs2 : starEach [b] X.env = [(false, eval b X.env)] := by rfl) : RI X tg (.Call (.Name "range" p) [a, b] [] pos) (mRng2 ta tb) :=
  ⟨fun W tk => (pi_range2 hg hm (pa_cons (ha.run W tk) (pa_cons (hb.run W tk) pa_nil hs2) (by rw [hs, hs2])) hs hs2).of fun σ H R ⟨C, fl, e, Q, WD, G, ht, k⟩ =>
    two (Q := fun x y e2 => kI (fun i => kI (fun j => (-(2 ^ 62) ≤ i ∧ i < 2 ^ 62 ∧ -(2 ^ 62) ≤ j ∧ j < 2 ^ 62) ∧ Q (rngD i (j - i).toNat) e2) y) x) G ht fun x y e2 v u H2 R2 l2 r1 r2 q0 => by
      obtain ⟨i, rfl, q1⟩ := kI_of q0
      obtain ⟨j, rfl, hb, hq⟩ := kI_of q1
      obtain rfl : v = .int i := r1
      obtain rfl : u = .int j := r2
      exact ⟨i, j, rfl, hb, k _ e2 H2 _ R2 l2 (itOk_rng i _) hq⟩⟩
/-! ### targets -/
abbrev MG := D → En → (En → Prop) → Prop
abbrev MGs := List D → En → (En → Prop) → Prop
def cG (K : PySem.W.Frag) (g : MG) : TG := fun v σ H R => ∃ C e d Q, C.K = K ∧ StR C [] σ H e ∧ Rep K (Md C [] e) H d v ∧ g d e Q ∧ ∀ e' σ' , StR C [] σ' H e' → Later [] (Md C [] e) H (Md C [] e') H → Q e' → R σ' H
def cGs (K : PySem.W.Frag) (g : MGs) : TGs := fun vs σ H R => ∃ C e ds Q, C.K = K ∧ StR C [] σ H e ∧ Reps K (Md C [] e) H ds vs ∧ g ds e Q ∧ ∀ e' σ', StR C [] σ' H e' → Later [] (Md C [] e) H (Md C [] e') H → Q e' → R σ' H
structure RG (X : Cx) (tg : Expr) (g : MG) : Prop where
  run : PG X tg (cG X.K g)
structure RGs (X : Cx) (tg : List Expr) (g : MGs) : Prop where
  run : PGs X tg (cGs X.K g)
theorem _root_.L2.PG.of {X : Cx} {e : Expr} {t u : TG} (h : PG X e t) (i : ∀ v σ H Q, u v σ H Q → t v σ H Q) : PG X e u := ⟨fun pins s σ H v w Q I r z => h.run pins s σ H v w Q I r (i _ _ _ _ z)⟩
theorem _root_.L2.PGs.of {X : Cx} {e : List Expr} {t u : TGs} (h : PGs X e t) (i : ∀ v σ H Q, u v σ H Q → t v σ H Q) : PGs X e u := ⟨fun pins s σ H v w Q I r z => h.run pins s σ H v w Q I r (i _ _ _ _ z)⟩
def mgN (i : Nat) : MG := fun d e k => k (e.set i (.d d))
theorem less_setD {C : Cn} {fl : List Addr} {e : En} {i : Nat} {x : D} : ∀ a, Md C fl (e.set i (.d x)) a → Md C fl e a := Md.less fun a h => sublist_mem (owns_set_sub rfl) h
theorem rg_n {tg : Expr} {i : Nat} (h : PG X tg (gName i)) : RG X tg (mgN i) := ⟨h.of fun v σ H R ⟨C, e, d, Q, ck, st, r, hg, k⟩ => k _ _ (st.setD (by rw [ck]; exact r)) (.same less_setD) hg⟩
@[simp] def mgNil : MGs := fun ds e k => match ds with | [] => k e | _ => False
@[simp] def mgCons (g : MG) (gs : MGs) : MGs := fun ds e k => match ds with | d :: r => g d e (fun e1 => gs r e1 k) | [] => False
theorem rgs_nil : RGs X [] mgNil := ⟨pgs_nil.of fun vs σ H R ⟨C, e, ds, Q, ck, st, r, hg, k⟩ => by
  cases ds with
  | nil => exact ⟨r, k e σ st .refl hg⟩
  | cons _ _ => exact hg.elim⟩
theorem rgs_cons {e : Expr} {es : List Expr} {g : MG} {gs : MGs} (h1 : RG X e g) (h2 : RGs X es gs) (hs : (assignEach (e :: es) X.env).map (·.2) = assign e X.env :: (assignEach es X.env).map (·.2) := by rfl) : RGs X (e :: es) (mgCons g gs) :=
  ⟨(pgs_cons h1.run h2.run hs).of fun vs σ H R ⟨C, e, ds, Q, ck, st, r, hg, k⟩ => by
    cases ds with
    | nil => exact hg.elim
    | cons d ds =>
      obtain ⟨v, vr, rfl, r1, r2⟩ := r
      exact ⟨v, vr, rfl, C, e, d, _, ck, st, r1, hg, fun e1 σ1 st1 l1 q => ⟨C, e1, ds, Q, ck, st1, r2.later l1, q, fun e2 σ2 st2 l2 q2 => k e2 σ2 st2 (l1.trans l2) q2⟩⟩⟩
def mgTup (gs : MGs) : MG := fun d e k => match d with | .tup ds => gs ds e k | _ => False
theorem rg_tup {es : List Expr} {k : Nat} {pos : Pos} {gs : MGs} {n : Nat} (hc : X.calm = true) (h : RGs X es gs) (hlen : ∀ ds e k, gs ds e k → ds.length = n) (hn : (assignEach es X.env).length = n := by rfl) (hst : (assignEach es X.env).findIdx? (·.1) = none := by rfl) : RG X (.Tuple es k pos) (mgTup gs) :=
  ⟨(pg_tup hc h.run hn hst).of fun v σ H R ⟨C, e, d, Q, ck, st, r, hg, k⟩ => by
    cases d with
    | tup ds =>
      obtain ⟨a, vs, rfl, ht, rs⟩ := r
      exact ⟨a, vs, rfl, ht, by rw [← rs.length]; exact hlen _ _ _ hg, C, e, ds, Q, ck, st, rs, hg, k⟩
    | _ => exact hg.elim⟩
theorem mgNil_len : ∀ ds e k, mgNil ds e k → ds.length = 0 := fun ds e k h => by
  cases ds with
  | nil => rfl
  | cons _ _ => exact h.elim
theorem mgConsN_len {i : Nat} {gs : MGs} {n : Nat} (h : ∀ ds e k, gs ds e k → ds.length = n) : ∀ ds e k, mgCons (mgN i) gs ds e k → ds.length = n + 1 := fun ds e k q => by
  cases ds with
  | nil => exact q.elim
  | cons d r => rw [List.length_cons, h _ _ _ q]
/-! ### loops -/
def forD (g : MG) (tb : MS) (MD : MEnds) (W : WE) : List D → En → Prop
  | [], e => MD.nx e
  | d :: ds, e => g d e fun e1 => tb ⟨forD g tb MD W ds, MD.rt, MD.nx, forD g tb MD W ds⟩ e1 W
def mFor (ti : MI) (g : MG) (tb : MS) : MS := fun MD e W => ti e (fun ds e1 => forD g tb MD W ds e1) W
theorem rs_for {iter : Expr} {body : List Stmt} {ti : MI} {g : MG} {tb : MS} {pos : Pos} (hp : PassesOwn (model X.prog X.w) X.A X.env X.xe) (hc : X.calm = true) (hi : RI X tg iter ti) (hg : RG X tg g) (hb : RSs X body tb)
    (hs : ∀ x, foldedSetIterable iter X.env x = pure x := by intro _; rfl) : RS X (.For tg iter body [] pos) (mFor ti g tb) :=
  ⟨fun W tk => (ps_for hp hc (hi.run W tk) hg.run (hb.run W tk) hs).of fun D σ H ⟨C, e, MD, WD, G, ht, n, r, bk, ct⟩ => ⟨C, [], e, _, WD, G, ht, fun ds e1 H1 J R1 l1 it q => by
    obtain ⟨Ru, cu, back, lat⟩ := R1.up G.ok
    refine ⟨fun i m σ2 H2 => i ≤ ds.length ∧ m = ds.length - i ∧ ∃ e2, StR (C.up e1 H1) [] σ2 H2 e2 ∧ forD g tb MD WD (ds.drop i) e2, ⟨ds.length, Nat.zero_le _, rfl, e1, Ru, q⟩, ?_⟩
    rintro i m σ2 H2 ⟨hi, rfl, e2, R2, hf⟩
    have l2 := lat _ _ _ _ R2
    by_cases hlt : i < ds.length
    · right
      have hd : ds[i]? = some ds[i] := List.getElem?_eq_getElem hlt
      obtain ⟨hgo, hy⟩ := it.go _ _ l2 i _ hd
      refine ⟨hgo, fun σ3 H3 => ∃ e3, StR (C.up e1 H1) [] σ3 H3 e3 ∧ forD g tb MD WD (ds.drop (i + 1)) e3, fun σ3 H3 ⟨e3, R3, h3⟩ => ⟨ds.length - (i + 1), by omega, by omega, rfl, e3, R3, h3⟩, fun x H3 y => ?_⟩
      obtain ⟨gr, rp⟩ := hy x H3 y
      obtain ⟨R3, l3⟩ := R2.heap gr
      rw [List.drop_eq_getElem_cons hlt] at hf
      have K1 : (C.up e1 H1).K = X.K := G.k
      refine ⟨C.up e1 H1, e2, ds[i], _, K1, R3, rp, hf, fun e4 σ4 R4 l4 q4 => ?_⟩
      have W4 : WOk (C.up e1 H1) WD W := fun Ca dd fs vs σ5 H5 e5 R5 a b c => G.w Ca dd fs vs σ5 H5 e5 (back _ _ _ _ R5) a b c
      refine ⟨C.up e1 H1, e4, _, WD, ⟨K1, cu, R4, W4⟩, q4, fun e5 σ5 H5 R5 q5 => ⟨e5, R5, q5⟩, fun s e5 v σ5 H5 R5 q5 => ?_, fun e5 σ5 H5 R5 q5 => n e5 σ5 H5 (back _ _ _ _ R5) q5, fun e5 σ5 H5 R5 q5 => ⟨e5, R5, q5⟩⟩
      refine r s e5 v σ5 H5 ?_ q5
      cases s with
      | d x => exact ⟨back _ _ _ _ R5.1, R5.2⟩
      | own a x => exact ⟨back _ _ _ _ R5.1, R5.2⟩
      | un => exact R5.elim
    · left
      have ei : i = ds.length := by omega
      subst ei
      rw [List.drop_length] at hf
      exact ⟨it.stop _ _ l2, n e2 σ2 H2 (back _ _ _ _ R2) hf⟩⟩⟩
/-- a loop by a word on what is left -/
theorem forD_ind {g : MG} {tb : MS} {MD : MEnds} {W : WE} (I : List D → En → Prop) (hn : ∀ e, I [] e → MD.nx e)
    (hc : ∀ d ds e, (∀ e', I ds e' → forD g tb MD W ds e') → I (d :: ds) e → g d e fun e1 => tb ⟨forD g tb MD W ds, MD.rt, MD.nx, forD g tb MD W ds⟩ e1 W) : ∀ ds e, I ds e → forD g tb MD W ds e
  | [], e, h => hn e h
  | d :: ds, e, h => hc d ds e (forD_ind I hn hc ds) h
end
end DL
set_option maxHeartbeats 2000000
namespace DL
open PySem L2
/-! ### operators -/
@[simp] def oI (g : Int → Int → D) : DR2 := fun x y k => kI (fun i => kI (fun j => k (g i j)) y) x
@[simp] def oIc (C : Int → Int → Prop) (g : Int → Int → D) : DR2 := fun x y k => kI (fun i => kI (fun j => C i j ∧ k (g i j)) y) x
def toV : D → V
  | .bl b => .bl b
  | .int i => .int i
  | .str x => .str x
  | .adr v => v
  | _ => .non
@[simp] def isSc : D → Bool
  | .bl _ => true
  | .int _ => true
  | .str _ => true
  | .non => true
  | _ => false
theorem rep_toV {K : PySem.W.Frag} {M : Addr → Prop} {H : Hp} {d : D} {v : V} (h : isSc d = true) (r : Rep K M H d v) : v = toV d := by
  cases d <;> first | exact r | (simp [isSc] at h)
theorem toV_rep {K : PySem.W.Frag} {M : Addr → Prop} {H : Hp} {d : D} (h : isSc d = true) : Rep K M H d (toV d) := by
  cases d <;> first | rfl | (simp [isSc] at h)
theorem lift_I0 {K : PySem.W.Frag} {g : Int → Int → D} {g' : Int → Int → V} (h : ∀ i j, isSc (g i j) = true ∧ toV (g i j) = g' i j) : Lift2 K (oI g) (rI0 g') := fun M H x y v u k R rx ry q z => by
  obtain ⟨i, rfl, q1⟩ := kI_of q
  obtain ⟨j, rfl, q2⟩ := kI_of q1
  obtain rfl : v = .int i := rx
  obtain rfl : u = .int j := ry
  exact ⟨i, j, rfl, rfl, z _ _ q2 (by rw [← (h i j).2]; exact toV_rep (h i j).1)⟩
theorem lift_I {K : PySem.W.Frag} {C : Int → Int → Prop} {g : Int → Int → D} {g' : Int → Int → V} (h : ∀ i j, isSc (g i j) = true ∧ toV (g i j) = g' i j) : Lift2 K (oIc C g) (rI C g') := fun M H x y v u k R rx ry q z => by
  obtain ⟨i, rfl, q1⟩ := kI_of q
  obtain ⟨j, rfl, hc, q2⟩ := kI_of q1
  obtain rfl : v = .int i := rx
  obtain rfl : u = .int j := ry
  exact ⟨i, j, rfl, rfl, hc, z _ _ q2 (by rw [← (h i j).2]; exact toV_rep (h i j).1)⟩
theorem gOk (g : Int → Int → Int) : ∀ i j, isSc (D.int (g i j)) = true ∧ toV (D.int (g i j)) = V.int (g i j) := fun _ _ => ⟨rfl, rfl⟩
theorem gOkB (g : Int → Int → Bool) : ∀ i j, isSc (D.bl (g i j)) = true ∧ toV (D.bl (g i j)) = V.bl (g i j) := fun _ _ => ⟨rfl, rfl⟩
abbrev oAdd : DR2 := oI fun i j => .int (i + j)
@[simp] abbrev oSub : DR2 := oI fun i j => .int (i - j)
abbrev oMul : DR2 := oIc CMul fun i j => .int (i * j)
abbrev oMod : DR2 := oIc (fun _ j => 0 < j) fun i j => .int (i % j)
abbrev oDiv : DR2 := oIc CDiv fun i j => .int (i / j)
abbrev oPow : DR2 := oIc CPow fun i j => .int (i ^ j.toNat)
abbrev oLt : DR2 := oI fun i j => .bl (decide (i < j))
abbrev oLe : DR2 := oI fun i j => .bl (decide (i ≤ j))
abbrev oGt : DR2 := oI fun i j => .bl (decide (j < i))
abbrev oGe : DR2 := oI fun i j => .bl (decide (j ≤ i))
/-- == of data that are no lists, no tuples -/
def scalD : D → D → Bool := fun x y => isSc x && isSc y && scal (toV x) (toV y)
def oEq : DR2 := fun x y k => scalD x y = true ∧ k (.bl (decide (toV x = toV y)))
def oNe : DR2 := fun x y k => scalD x y = true ∧ k (.bl (!decide (toV x = toV y)))
theorem scalD_of {x y : D} (h : scalD x y = true) : isSc x = true ∧ isSc y = true ∧ scal (toV x) (toV y) = true := by
  unfold scalD at h
  simp only [Bool.and_eq_true] at h
  exact ⟨h.1.1, h.1.2, h.2⟩
theorem lift_eq {K : PySem.W.Frag} : Lift2 K oEq rEq := fun M H x y v u k R rx ry q z => by
  obtain ⟨hs, q⟩ := q
  obtain ⟨a, b, c⟩ := scalD_of hs
  rw [rep_toV a rx, rep_toV b ry]
  exact ⟨c, z _ _ q rfl⟩
theorem lift_ne {K : PySem.W.Frag} : Lift2 K oNe rNe := fun M H x y v u k R rx ry q z => by
  obtain ⟨hs, q⟩ := q
  obtain ⟨a, b, c⟩ := scalD_of hs
  rw [rep_toV a rx, rep_toV b ry]
  exact ⟨c, z _ _ q rfl⟩
/-- texts -/
def kS (Q : Str → Prop) : D → Prop
  | .str i => Q i
  | _ => False
theorem kS_of {Q : Str → Prop} {x : D} (h : kS Q x) : ∃ i, x = .str i ∧ Q i := by
  cases x <;> first | exact h.elim | exact ⟨_, rfl, h⟩
def oS (C : Str → Str → Prop) (g : Str → Str → D) : DR2 := fun x y k => kS (fun i => kS (fun j => C i j ∧ k (g i j)) y) x
theorem lift_S {K : PySem.W.Frag} {C : Str → Str → Prop} {g : Str → Str → D} {r2 : R2} (h : ∀ i j, isSc (g i j) = true) (hr : ∀ i j H Q, C i j → Q (toV (g i j)) H → r2 (.str i) (.str j) H Q) : Lift2 K (oS C g) r2 := fun M H x y v u k R rx ry q z => by
  obtain ⟨i, rfl, q1⟩ := kS_of q
  obtain ⟨j, rfl, hc, q2⟩ := kS_of q1
  obtain rfl : v = .str i := rx
  obtain rfl : u = .str j := ry
  exact hr i j H R hc (z _ _ q2 (toV_rep (h i j)))
def oCatS : DR2 := oS (fun i j => i.length + j.length ≤ sizeLine) fun i j => .str (i ++ j)
def oLtS : DR2 := oS (fun _ _ => True) fun i j => .bl (decide (i.cps.toList < j.cps.toList))
def oLeS : DR2 := oS (fun _ _ => True) fun i j => .bl (!decide (j.cps.toList < i.cps.toList))
def oInS : DR2 := oS (fun _ _ => True) fun i j => .bl (!(Builtin.Str.occurrences j i 0 j.length 1).isEmpty)
def oNotInS : DR2 := oS (fun _ _ => True) fun i j => .bl (!(!(Builtin.Str.occurrences j i 0 j.length 1).isEmpty))
theorem lift_catS {K : PySem.W.Frag} : Lift2 K oCatS (fun x y H Q => ∃ i j, x = .str i ∧ y = .str j ∧ i.length + j.length ≤ sizeLine ∧ Q (.str (i ++ j)) H) := lift_S (fun _ _ => rfl) fun i j H Q c q => ⟨i, j, rfl, rfl, c, q⟩
theorem lift_ltS {K : PySem.W.Frag} : Lift2 K oLtS (fun x y H Q => ∃ i j, x = .str i ∧ y = .str j ∧ Q (.bl (decide (i.cps.toList < j.cps.toList))) H) := lift_S (fun _ _ => rfl) fun i j H Q c q => ⟨i, j, rfl, rfl, q⟩
theorem lift_leS {K : PySem.W.Frag} : Lift2 K oLeS (fun x y H Q => ∃ i j, x = .str i ∧ y = .str j ∧ Q (.bl (!decide (j.cps.toList < i.cps.toList))) H) := lift_S (fun _ _ => rfl) fun i j H Q c q => ⟨i, j, rfl, rfl, q⟩
theorem lift_inS {K : PySem.W.Frag} : Lift2 K oInS (fun x y H Q => ∃ i j, x = .str i ∧ y = .str j ∧ Q (.bl (!(Builtin.Str.occurrences j i 0 j.length 1).isEmpty)) H) := lift_S (fun _ _ => rfl) fun i j H Q c q => ⟨i, j, rfl, rfl, q⟩
theorem lift_notinS {K : PySem.W.Frag} : Lift2 K oNotInS (fun x y H Q => ∃ i j, x = .str i ∧ y = .str j ∧ Q (.bl (!(!(Builtin.Str.occurrences j i 0 j.length 1).isEmpty))) H) := lift_S (fun _ _ => rfl) fun i j H Q c q => ⟨i, j, rfl, rfl, q⟩
/-- two rules for one operation -/
def oOr (r r' : DR2) : DR2 := fun x y k => r x y k ∨ r' x y k
theorem lift_or {K : PySem.W.Frag} {r r' : DR2} {a b : R2} (h : Lift2 K r a) (h' : Lift2 K r' b) : Lift2 K (oOr r r') (fun x y H Q => a x y H Q ∨ b x y H Q) := fun M H x y v u k R rx ry q z => q.elim (fun q => .inl (h M H x y v u k R rx ry q z)) fun q => .inr (h' M H x y v u k R rx ry q z)
/-- is None -/
def isNon : D → Bool
  | .non => true
  | _ => false
def isAdr : D → Bool
  | .adr _ => true
  | _ => false
theorem rep_non {K : PySem.W.Frag} {M : Addr → Prop} {H : Hp} {x : D} {v : V} (n : isAdr x = false) (r : Rep K M H x v) : decide (v = .non) = isNon x := by
  cases x with
  | non => obtain rfl : v = .non := r; rfl
  | bl b => obtain rfl : v = .bl b := r; rfl
  | int b => obtain rfl : v = .int b := r; rfl
  | str b => obtain rfl : v = .str b := r; rfl
  | adr u => simp [isAdr] at n
  | tup _ => obtain ⟨a, _, rfl, _⟩ := r; rfl
  | lst _ => obtain ⟨a, _, rfl, _⟩ := r; rfl
  | scr _ => obtain ⟨a, _, rfl, _⟩ := r; rfl
  | dct _ => obtain ⟨a, _, rfl, _⟩ := r; rfl
  | obj _ _ => obtain ⟨a, _, _, rfl, _⟩ := r; rfl
  | exc _ _ _ _ => obtain ⟨rfl, _⟩ := r; rfl
def oIsN : DR2 := fun x y k => match y with
  | .non => isAdr x = false ∧ k (.bl (isNon x))
  | _ => False
def oNotN : DR2 := fun x y k => match y with
  | .non => isAdr x = false ∧ k (.bl (!isNon x))
  | _ => False
theorem lift_isN {K : PySem.W.Frag} : Lift2 K oIsN (fun x y H Q => y = .non ∧ Q (.bl (decide (x = .non))) H) := fun M H x y v u k R rx ry q z => by
  cases y with
  | non =>
    obtain ⟨na, q⟩ := q
    refine ⟨ry, ?_⟩
    rw [rep_non na rx]
    exact z _ _ q rfl
  | _ => exact q.elim
theorem lift_notN {K : PySem.W.Frag} : Lift2 K oNotN (fun x y H Q => y = .non ∧ Q (.bl (!decide (x = .non))) H) := fun M H x y v u k R rx ry q z => by
  cases y with
  | non =>
    obtain ⟨na, q⟩ := q
    refine ⟨ry, ?_⟩
    rw [rep_non na rx]
    exact z _ _ q rfl
  | _ => exact q.elim
/-! ### tuples and lists made -/
abbrev ML := En → (List D → En → Prop) → WE → Prop
def cL (K : PySem.W.Frag) (W : WX) (n : Nat) (t : ML) : TA := fun σ H R => ∃ C fl e Q WD, Gd K W C fl σ H e WD ∧ t e Q WD ∧
  ∀ ds e' vs H', StR C fl σ H' e' → Later fl (Md C fl e) H (Md C fl e') H' → Reps K (Md C fl e') H' ds vs → ds.length = n → Q ds e' → R vs H'
structure RL (X : Cx) (es : List Expr) (n : Nat) (t : ML) : Prop where
  run : ∀ W, Takes X W → PA X es (cL X.K W n t)
def mL0 : ML := fun e Q _ => Q [] e
def mL1 (t : ME) (u : ML) : ML := fun e Q W => t e (fun x e1 => u e1 (fun xs e2 => Q (x :: xs) e2) W) W
section
variable {X : Cx} {pos : Pos} {e a b : Expr} {es : List Expr} {t ta tb : ME} {n : Nat} {u : ML}
theorem rl_nil : RL X [] 0 mL0 := ⟨fun W tk => pa_nil.of fun σ H R ⟨C, fl, e, Q, WD, G, ht, k⟩ => k [] e [] H G.st .refl rfl rfl ht⟩
theorem rl_cons (h : RE X e t) (h2 : RL X es n u) (hs : starEach (e :: es) X.env = (false, eval e X.env) :: starEach es X.env := by rfl) : RL X (e :: es) (n + 1) (mL1 t u) :=
  ⟨fun W tk => (pa_cons (h.run W tk) (h2.run W tk) hs).of fun σ H R ⟨C, fl, e, Q, WD, G, ht, k⟩ => ⟨C, fl, e, _, WD, G, ht, fun d e1 v H1 R1 l1 r q =>
    ⟨C, fl, e1, _, WD, G.to R1, q, fun ds e2 vs H2 R2 l2 rs hn q2 => k (d :: ds) e2 (v :: vs) H2 R2 (l1.trans l2) (.cons (r.later l2) rs) (by rw [List.length_cons, hn]) q2⟩⟩⟩
def mTup (t : ML) : ME := fun e Q W => t e (fun ds e1 => Q (.tup ds) e1) W
def mLst (t : ML) : ME := fun e Q W => t e (fun ds e1 => Q (.lst ds) e1) W
theorem small_le {n : Nat} (h : n ≤ 1000) : n ≤ sizeLine := Nat.le_of_lt (small1000 h)
theorem re_tup {x1} (h : RL X es n u) (hn : n ≤ 1000 := by decide) : RE X (.Tuple es x1 pos) (mTup u) := ⟨fun W tk => (pe_tup (h.run W tk)).of fun σ H R ⟨C, fl, e, Q, WD, G, ht, k⟩ => ⟨C, fl, e, _, WD, G, ht, fun ds e1 vs H1 R1 l1 rs hl q =>
  ⟨by rw [← rs.length, hl]; exact small_le hn, fun p hp => by
    obtain ⟨R2, l2⟩ := R1.heap (upd_keep (o := .tup vs) hp)
    exact k (.tup ds) e1 _ _ R2 (l1.trans l2) ⟨p, vs, rfl, SqT.of upd_same, rs.later l2⟩ q⟩⟩⟩
theorem rf_lst (h : RL X es n u) (hn : n ≤ 1000 := by decide) : RF X (.List es pos) (mLst u) := ⟨fun W tk => (pe_lst (h.run W tk)).of fun σ H R ⟨C, fl, e, Q, WD, G, ht, k⟩ => ⟨C, fl, e, _, WD, G, ht, fun ds e1 vs H1 R1 l1 rs hl q =>
  ⟨by rw [← rs.length, hl]; exact small_le hn, fun p hp => by
    obtain ⟨R2, l2⟩ := R1.float G.ok (o := .lst vs) hp trivial
    exact k (.lst ds) e1 _ _ R2 (l1.trans l2) ⟨vs, upd_same, rs.later l2⟩ q⟩⟩⟩
/-! ### what is looked at -/
section
variable {K : PySem.W.Frag} {C : Cn} {fl : List Addr} {σ : L2.St} {H : Hp} {e : En} {d : D} {v : V}
theorem Pk.cases (h : Pk K C fl e H d v) (R : StR C fl σ H e) (ck : C.K = K) : Rep K (Md C fl e) H d v ∨ ∃ (i : Nat) (a : Addr), e[i]? = some (Slot.own a d) ∧ v = .ref a ∧ Own K (Md C fl e) H d a := by
  rcases h with h | ⟨i, a, h, ev⟩
  · exact .inl h
  · refine .inr ⟨i, a, h, ev, ?_⟩
    rw [← ck]
    exact (R.getO h).2
theorem Pk.sc (h : Pk K C fl e H d v) (R : StR C fl σ H e) (ck : C.K = K) (s : isSc d = true) : v = toV d := by
  rcases h.cases R ck with h1 | ⟨i, a, _, _, h2⟩
  · exact rep_toV s h1
  · cases d <;> first | exact h2.elim | (simp [isSc] at s)
/-- a sequence that is looked at -/
theorem Pk.sq {k : List D → Prop} (h : Pk K C fl e H d v) (R : StR C fl σ H e) (ck : C.K = K) (q : sqD d k) : ∃ a ds vs, v = .ref a ∧ Reps K (Md C fl e) H ds vs ∧ k ds ∧ (SqL K H a vs ∨ SqT K H a vs) := by
  rcases h.cases R ck with h1 | ⟨i, a, _, rfl, h2⟩
  · obtain ⟨a, ds, vs, e1, rs, hk, hh⟩ := Rep.sq h1 q
    refine ⟨a, ds, vs, e1, rs, hk, ?_⟩
    rcases hh with ⟨z, _⟩ | z
    · exact .inl z
    · exact .inr z
  · cases d with
    | lst ds => obtain ⟨vs, h1, r⟩ := h2; exact ⟨a, ds, vs, rfl, r, q, .inl (SqL.of h1)⟩
    | dct _ => exact q.elim
    | obj _ _ => exact q.elim
    | _ => exact h2.elim
theorem Pk.lst {ds : List D} (h : Pk K C fl e H (.lst ds) v) (R : StR C fl σ H e) (ck : C.K = K) : ∃ a vs, v = .ref a ∧ H a = some (.lst vs) ∧ Reps K (Md C fl e) H ds vs := by
  rcases h.cases R ck with ⟨a, vs, e1, n, h1, r⟩ | ⟨i, a, _, rfl, vs, h1, r⟩
  · exact ⟨a, vs, e1, h1, r⟩
  · exact ⟨a, vs, rfl, h1, r⟩
theorem Pk.tup {ds : List D} (h : Pk K C fl e H (.tup ds) v) (R : StR C fl σ H e) (ck : C.K = K) : ∃ a vs, v = .ref a ∧ SqT K H a vs ∧ Reps K (Md C fl e) H ds vs := by
  rcases h.cases R ck with ⟨a, vs, e1, h1, r⟩ | ⟨i, a, _, rfl, h2⟩
  · exact ⟨a, vs, e1, h1, r⟩
  · exact h2.elim
theorem Pk.dct {ds : List (Key × D)} (h : Pk K C fl e H (.dct ds) v) (R : StR C fl σ H e) (ck : C.K = K) : ∃ a vs, v = .ref a ∧ Rd H a (.dK vs) ∧ RepK K (Md C fl e) H ds vs := by
  rcases h.cases R ck with ⟨a, vs, e1, n, h1, r⟩ | ⟨i, a, _, rfl, vs, h1, r⟩
  · exact ⟨a, vs, e1, h1, r⟩
  · exact ⟨a, vs, rfl, .inl h1, r⟩
end
/-- a call of a built-in by its values: one argument, looked at; the answer is no new object -/
abbrev DR1 := D → (D → Prop) → Prop
def LiftP (K : PySem.W.Frag) (r : DR1) (r2 : List V → Hp → VK → Prop) : Prop := ∀ (C : Cn) (fl : List Addr) (σ : L2.St) (H : Hp) (e : En) (d : D) (v : V) (k : D → Prop) (R : VK), C.K = K → StR C fl σ H e → Pk K C fl e H d v → r d k →
  (∀ z w, k z → Rep K (Md C fl e) H z w → R w H) → r2 [v] H R
def mB1 (r : DR1) (t : ME) : ME := fun e Q W => t e (fun x e1 => r x fun z => Q z e1) W
theorem re_B1 {id : String} {x : Str} {p : Pos} {r : DR1} {r2 : List V → Hp → VK → Prop} (hc : CallR X (.builtin id) r2) (hr : LiftP X.K r r2) (hg : Gl X x) (hm : X.mg x = none) (hv : bootBuiltins x = some (.builtin id)) (ha : RP X e t)
    (hn : x ≠ "__name__" := by decide) (hdb : (x == ("__debug__" : Str)) = false := by decide) (hs : starEach [e] X.env = (false, eval e X.env) :: starEach [] X.env := by rfl) (hpl : (backTo pos (starEach [] X.env)).any (·.1) = false := by rfl) :
    RE X (.Call (.Name x p) [e] [] pos) (mB1 r t) := ⟨fun W tk => (pe_callB hc hg hm hv (pa_cons (ha.run W tk) pa_nil hs) hn hdb hs hpl).of fun σ H R ⟨C, fl, e, Q, WD, G, ht, k⟩ =>
  ⟨C, fl, e, _, WD, G, ht, fun d e1 v H1 R1 l pk q => hr C fl σ H1 e1 d v _ _ G.k R1 pk q fun z w hz rz => k z e1 w H1 R1 l rz hz⟩⟩
theorem re_T1 {T : String} {x : Str} {p : Pos} {r : DR1} {r2 : List V → Hp → VK → Prop} (hc : CallR X (.type T) r2) (hr : LiftP X.K r r2) (hg : Gl X x) (hm : X.mg x = none) (hv : bootBuiltins x = some (.type T)) (ha : RP X e t)
    (hn : x ≠ "__name__" := by decide) (hdb : (x == ("__debug__" : Str)) = false := by decide) (hs : starEach [e] X.env = (false, eval e X.env) :: starEach [] X.env := by rfl) (hpl : (backTo pos (starEach [] X.env)).any (·.1) = false := by rfl) :
    RE X (.Call (.Name x p) [e] [] pos) (mB1 r t) := ⟨fun W tk => (pe_callTy hc hg hm hv (pa_cons (ha.run W tk) pa_nil hs) hn hdb hs hpl).of fun σ H R ⟨C, fl, e, Q, WD, G, ht, k⟩ =>
  ⟨C, fl, e, _, WD, G, ht, fun d e1 v H1 R1 l pk q => hr C fl σ H1 e1 d v _ _ G.k R1 pk q fun z w hz rz => k z e1 w H1 R1 l rz hz⟩⟩
/-- .. the answer a new object (list, dict) -/
def LiftPF (K : PySem.W.Frag) (r : DR1) (r2 : List V → Hp → VK → Prop) : Prop := ∀ (C : Cn) (fl : List Addr) (σ : L2.St) (H : Hp) (e : En) (d : D) (v : V) (k : D → Prop) (R : VK), CnOk C → C.K = K → StR C fl σ H e → Pk K C fl e H d v → r d k →
  (∀ z a H', k z → StR C (a :: fl) σ H' e → Later fl (Md C fl e) H (Md C (a :: fl) e) H' → Own K (Md C (a :: fl) e) H' z a → R (.ref a) H') → r2 [v] H R
theorem rf_B1 {id : String} {x : Str} {p : Pos} {r : DR1} {r2 : List V → Hp → VK → Prop} (hc : CallR X (.builtin id) r2) (hr : LiftPF X.K r r2) (hg : Gl X x) (hm : X.mg x = none) (hv : bootBuiltins x = some (.builtin id)) (ha : RP X e t)
    (hn : x ≠ "__name__" := by decide) (hdb : (x == ("__debug__" : Str)) = false := by decide) (hs : starEach [e] X.env = (false, eval e X.env) :: starEach [] X.env := by rfl) (hpl : (backTo pos (starEach [] X.env)).any (·.1) = false := by rfl) :
    RF X (.Call (.Name x p) [e] [] pos) (mB1 r t) := ⟨fun W tk => (pe_callB hc hg hm hv (pa_cons (ha.run W tk) pa_nil hs) hn hdb hs hpl).of fun σ H R ⟨C, fl, e, Q, WD, G, ht, k⟩ =>
  ⟨C, fl, e, _, WD, G, ht, fun d e1 v H1 R1 l pk q => hr C fl σ H1 e1 d v _ _ G.ok G.k R1 pk q fun z a H' hz R2 l2 o => k z e1 a H' R2 (l.trans l2) o hz⟩⟩
theorem rf_T1 {T : String} {x : Str} {p : Pos} {r : DR1} {r2 : List V → Hp → VK → Prop} (hc : CallR X (.type T) r2) (hr : LiftPF X.K r r2) (hg : Gl X x) (hm : X.mg x = none) (hv : bootBuiltins x = some (.type T)) (ha : RP X e t)
    (hn : x ≠ "__name__" := by decide) (hdb : (x == ("__debug__" : Str)) = false := by decide) (hs : starEach [e] X.env = (false, eval e X.env) :: starEach [] X.env := by rfl) (hpl : (backTo pos (starEach [] X.env)).any (·.1) = false := by rfl) :
    RF X (.Call (.Name x p) [e] [] pos) (mB1 r t) := ⟨fun W tk => (pe_callTy hc hg hm hv (pa_cons (ha.run W tk) pa_nil hs) hn hdb hs hpl).of fun σ H R ⟨C, fl, e, Q, WD, G, ht, k⟩ =>
  ⟨C, fl, e, _, WD, G, ht, fun d e1 v H1 R1 l pk q => hr C fl σ H1 e1 d v _ _ G.ok G.k R1 pk q fun z a H' hz R2 l2 o => k z e1 a H' R2 (l.trans l2) o hz⟩⟩
/-- .. a new tuple, or the argument itself (data) -/
def LiftPT (K : PySem.W.Frag) (r : DR1) (r2 : List V → Hp → VK → Prop) : Prop := ∀ (C : Cn) (fl : List Addr) (σ : L2.St) (H : Hp) (e : En) (d : D) (v : V) (k : D → Prop) (R : VK), CnOk C → C.K = K → StR C fl σ H e → Pk K C fl e H d v → r d k →
  (∀ z w H', k z → StR C fl σ H' e → Later fl (Md C fl e) H (Md C fl e) H' → Rep K (Md C fl e) H' z w → R w H') → r2 [v] H R
theorem re_T1n {T : String} {x : Str} {p : Pos} {r : DR1} {r2 : List V → Hp → VK → Prop} (hc : CallR X (.type T) r2) (hr : LiftPT X.K r r2) (hg : Gl X x) (hm : X.mg x = none) (hv : bootBuiltins x = some (.type T)) (ha : RP X e t)
    (hn : x ≠ "__name__" := by decide) (hdb : (x == ("__debug__" : Str)) = false := by decide) (hs : starEach [e] X.env = (false, eval e X.env) :: starEach [] X.env := by rfl) (hpl : (backTo pos (starEach [] X.env)).any (·.1) = false := by rfl) :
    RE X (.Call (.Name x p) [e] [] pos) (mB1 r t) := ⟨fun W tk => (pe_callTy hc hg hm hv (pa_cons (ha.run W tk) pa_nil hs) hn hdb hs hpl).of fun σ H R ⟨C, fl, e, Q, WD, G, ht, k⟩ =>
  ⟨C, fl, e, _, WD, G, ht, fun d e1 v H1 R1 l pk q => hr C fl σ H1 e1 d v _ _ G.ok G.k R1 pk q fun z w H' hz R2 l2 rz => k z e1 w H' R2 (l.trans l2) rz hz⟩⟩
/-- len -/
def oLen : DR1 := fun x k => match x with
  | .lst ds => k (.int ds.length)
  | .tup ds => k (.int ds.length)
  | .scr ds => k (.int ds.length)
  | .str z => z.length ≤ sizeLine ∧ k (.int z.length)
  | _ => False
def rLenA (K : PySem.W.Frag) : List V → Hp → VK → Prop := fun xs H Q => (∃ p ys, xs = [.ref p] ∧ (SqL K H p ys ∨ SqT K H p ys) ∧ Q (.int ys.length) H) ∨ ∃ z, xs = [.str z] ∧ z.length ≤ sizeLine ∧ Q (.int z.length) H
theorem call_lenA : CallR X (.builtin "len") (rLenA X.K) := CallR.or call_len_seq call_len_str
theorem lift_len {K : PySem.W.Frag} : LiftP K oLen (rLenA K) := fun C fl σ H e d v k R ck st pk q z => by
  cases hd : d with
  | str x =>
    subst hd
    obtain rfl := pk.sc st ck rfl
    exact .inr ⟨x, rfl, q.1, z _ _ q.2 rfl⟩
  | lst ds =>
    subst hd
    obtain ⟨a, ds, vs, rfl, rs, hk, hh⟩ := pk.sq (k := fun ds => k (.int ds.length)) st ck q
    exact .inl ⟨a, vs, rfl, hh, by rw [← rs.length]; exact z _ _ hk rfl⟩
  | tup ds =>
    subst hd
    obtain ⟨a, ds, vs, rfl, rs, hk, hh⟩ := pk.sq (k := fun ds => k (.int ds.length)) st ck q
    exact .inl ⟨a, vs, rfl, hh, by rw [← rs.length]; exact z _ _ hk rfl⟩
  | scr ds =>
    subst hd
    obtain ⟨a, ds, vs, rfl, rs, hk, hh⟩ := pk.sq (k := fun ds => k (.int ds.length)) st ck q
    exact .inl ⟨a, vs, rfl, hh, by rw [← rs.length]; exact z _ _ hk rfl⟩
  | _ => subst hd; exact q.elim
/-- tuple(xs), list(xs) -/
@[simp] def oTuple : DR1 := fun x k => sqD x fun ds => k (.tup ds)
theorem lift_tuple {K : PySem.W.Frag} : LiftPT K oTuple (fun xs H Q => ∃ p ys, xs = [.ref p] ∧ ((SqL K H p ys ∧ ∀ l, H l = none → Q (.ref l) (upd H l (.tup ys))) ∨ (SqT K H p ys ∧ Q (.ref p) H))) := fun C fl σ H e d v k R cn ck st pk q z => by
  obtain ⟨a, ds, vs, rfl, rs, hk, hh⟩ := pk.sq st ck q
  refine ⟨a, vs, rfl, ?_⟩
  rcases hh with hh | hh
  · refine .inl ⟨hh, fun l hl => ?_⟩
    obtain ⟨R2, l2⟩ := st.heap (upd_keep (o := .tup vs) hl)
    exact z _ _ _ hk R2 l2 ⟨l, vs, rfl, SqT.of upd_same, rs.later l2⟩
  · exact .inr ⟨hh, z _ _ _ hk st .refl ⟨a, vs, rfl, hh, rs⟩⟩
@[simp] def oList : DR1 := fun x k => sqD x fun ds => k (.lst ds)
theorem lift_list {K : PySem.W.Frag} : LiftPF K oList (fun xs H Q => ∃ p ys, xs = [.ref p] ∧ (SqL K H p ys ∨ SqT K H p ys) ∧ ∀ l, H l = none → Q (.ref l) (upd H l (.lst ys))) := fun C fl σ H e d v k R cn ck st pk q z => by
  obtain ⟨a, ds, vs, rfl, rs, hk, hh⟩ := pk.sq st ck q
  refine ⟨a, vs, rfl, hh, fun l hl => ?_⟩
  obtain ⟨R2, l2⟩ := st.float cn (o := .lst vs) hl trivial
  exact z _ _ _ hk R2 l2 ⟨vs, upd_same, rs.later l2⟩
/-- abs, int of an int -/
@[simp] def oAbs : DR1 := fun x k => kI (fun i => k (.int (if i < 0 then -i else i))) x
theorem lift_abs {K : PySem.W.Frag} : LiftP K oAbs (fun xs H Q => ∃ i, xs = [.int i] ∧ Q (.int (if i < 0 then -i else i)) H) := fun C fl σ H e d v k R ck st pk q z => by
  obtain ⟨i, rfl, q1⟩ := kI_of q
  obtain rfl := pk.sc st ck rfl
  exact ⟨i, rfl, z _ _ q1 rfl⟩
@[simp] def oInt : DR1 := fun x k => kI (fun i => k (.int i)) x
end
end DL
set_option maxHeartbeats 2000000
namespace DL
open PySem L2
/-! ### operands that are looked at when all operands are there -/
abbrev MQ := En → (Arg → En → Prop) → WE → Prop
def QR (K : PySem.W.Frag) (M : Addr → Prop) (H : Hp) (σ : L2.St) : Arg → V → Prop
  | .d x, v => Rep K M H x v
  | .io i, v => σ[i]? = some (some v)
def cQ (K : PySem.W.Frag) (W : WX) (t : MQ) : TE := fun σ H R => ∃ C fl e Q WD, Gd K W C fl σ H e WD ∧ t e Q WD ∧
  ∀ p e' v H', StR C fl σ H' e' → Later fl (Md C fl e) H (Md C fl e') H' → QR K (Md C fl e') H' σ p v → Q p e' → R v H'
structure RQ (X : Cx) (e : Expr) (t : MQ) : Prop where
  run : ∀ W, Takes X W → PE X e (cQ X.K W t)
def pkD : Option Slot → (D → Prop) → Prop
  | some (.d x), k => k x
  | some (.own _ x), k => k x
  | _, _ => False
def rsD (e : En) : Arg → (D → Prop) → Prop
  | .d x, k => k x
  | .io i, k => pkD e[i]? k
theorem QR.later {fl : List Addr} {K : PySem.W.Frag} {M M' : Addr → Prop} {H H' : Hp} {σ : L2.St} {p : Arg} {v : V} (l : Later fl M H M' H') (h : QR K M H σ p v) : QR K M' H' σ p v := by
  cases p with
  | d x => exact Rep.later l h
  | io i => exact h
theorem QR.res {K : PySem.W.Frag} {C : Cn} {fl : List Addr} {σ : L2.St} {H : Hp} {e : En} {p : Arg} {v : V} {k : D → Prop} (h : QR K (Md C fl e) H σ p v) (R : StR C fl σ H e) (ck : C.K = K) (q : rsD e p k) : ∃ x, Pk K C fl e H x v ∧ k x := by
  cases p with
  | d x => exact ⟨x, .inl h, q⟩
  | io i =>
    have q' : pkD e[i]? k := q
    unfold pkD at q'
    split at q'
    · rename_i x he
      obtain ⟨w, hw, r⟩ := R.get he
      have hv : σ[i]? = some (some v) := h
      rw [hv] at hw; cases hw
      rw [ck] at r
      exact ⟨x, .inl r, q'⟩
    · rename_i a x he
      obtain ⟨hw, _⟩ := R.getO he
      have hv : σ[i]? = some (some v) := h
      rw [hv] at hw; cases hw
      exact ⟨x, .inr ⟨i, a, he, rfl⟩, q'⟩
    · exact q'.elim
section
variable {X : Cx} {pos : Pos} {e a b ex : Expr} {t ta tb : ME} {qa : MQ}
def mQE (t : ME) : MQ := fun e Q W => t e (fun x e1 => Q (.d x) e1) W
theorem rq_e (h : RE X e t) : RQ X e (mQE t) := ⟨fun W tk => (h.run W tk).of fun σ H R ⟨C, fl, e, Q, WD, G, ht, k⟩ => ⟨C, fl, e, _, WD, G, ht, fun d e1 v H1 R1 l r q => k (.d d) e1 v H1 R1 l r q⟩⟩
def mQN (i : Nat) : MQ := fun e Q _ => pkD e[i]? fun _ => Q (.io i) e
theorem rq_n {i : Nat} (h : PE X e (tVar i)) : RQ X e (mQN i) := ⟨fun W tk => h.of fun σ H R ⟨C, fl, e, Q, WD, G, ht, k⟩ => by
  have ht' : pkD e[i]? fun _ => Q (.io i) e := ht
  unfold pkD at ht'
  split at ht'
  · rename_i x he
    obtain ⟨v, hv, r⟩ := G.st.get he
    exact ⟨v, hv, k (.io i) e v H G.st .refl hv ht'⟩
  · rename_i a x he
    obtain ⟨hv, _⟩ := G.st.getO he
    exact ⟨.ref a, hv, k (.io i) e (.ref a) H G.st .refl hv ht'⟩
  · exact ht'.elim⟩
/-- two operands: the first one is looked at behind the second -/
theorem twoQ {K : PySem.W.Frag} {W : WX} {C : Cn} {fl : List Addr} {σ : L2.St} {H : Hp} {e : En} {WD : WE} (G : Gd K W C fl σ H e WD) {Q : D → D → En → Prop} {R : V → V → Hp → Prop}
    (h : qa e (fun p e1 => tb e1 (fun y e2 => rsD e2 p fun x => Q x y e2) WD) WD)
    (k : ∀ x y e2 v u H2, StR C fl σ H2 e2 → Later fl (Md C fl e) H (Md C fl e2) H2 → Pk K C fl e2 H2 x v → Pk K C fl e2 H2 y u → Q x y e2 → R v u H2) :
    cQ K W qa σ H fun v H1 => cP K W tb σ H1 fun u H2 => R v u H2 :=
  ⟨C, fl, e, _, WD, G, h, fun p e1 v H1 R1 l1 r1 h1 => ⟨C, fl, e1, _, WD, G.to R1, h1, fun y e2 u H2 R2 l2 r2 h2 => by
    obtain ⟨x, px, hq⟩ := (r1.later l2).res R2 G.k h2
    exact k x y e2 v u H2 R2 (l1.trans l2) px r2 hq⟩⟩
def LiftQ2 (K : PySem.W.Frag) (r : DR2) (r2 : R2) : Prop := ∀ (C : Cn) (fl : List Addr) (σ : L2.St) (H : Hp) (e : En) (x y : D) (v u : V) (k : D → Prop) (R : VK), C.K = K → StR C fl σ H e → Pk K C fl e H x v → Pk K C fl e H y u → r x y k →
  (∀ z w, k z → Rep K (Md C fl e) H z w → R w H) → r2 v u H R
def mOpQ (r : DR2) (qa : MQ) (tb : ME) : ME := fun e Q W => qa e (fun p e1 => tb e1 (fun y e2 => rsD e2 p fun x => r x y fun z => Q z e2) W) W
theorem re_Q2 {r : DR2} {r2 : R2} (hpe : ∀ {t1 t2 : TE}, PE X a t1 → PE X b t2 → PE X ex (tOp r2 t1 t2)) (hr : LiftQ2 X.K r r2) (ha : RQ X a qa) (hb : RP X b tb) : RE X ex (mOpQ r qa tb) :=
  ⟨fun W tk => (hpe (ha.run W tk) (hb.run W tk)).of fun σ H R ⟨C, fl, e, Q, WD, G, ht, k⟩ => twoQ (Q := fun x y e2 => r x y fun z => Q z e2) G ht fun x y e2 v u H2 R2 l r1 r2' q => hr C fl σ H2 e2 x y v u _ _ G.k R2 r1 r2' q fun z w hz rz => k z e2 w H2 R2 l rz hz⟩
theorem rt_Q2 {r : DR2} {r2 : R2} (hpe : ∀ {t1 t2 : TE}, PE X a t1 → PE X b t2 → PT X ex (tTest (tOp r2 t1 t2))) (hr : LiftQ2 X.K r r2) (ha : RQ X a qa) (hb : RP X b tb) : RT X ex (mTest (mOpQ r qa tb)) :=
  ⟨fun W tk => (hpe (ha.run W tk) (hb.run W tk)).of fun σ H R ⟨C, fl, e, Q, WD, G, ht, k⟩ => twoQ (Q := fun x y e2 => r x y fun z => kB (fun b => Q b e2) z) G ht fun x y e2 v u H2 R2 l r1 r2' q => hr C fl σ H2 e2 x y v u _ _ G.k R2 r1 r2' q fun z w hz rz => by
    obtain ⟨b, rfl, hq⟩ := kB_of hz
    exact ⟨b, rz, k b e2 H2 R2 l hq⟩⟩
/-- .. a new list comes -/
def LiftQ2F (K : PySem.W.Frag) (r : DR2) (r2 : R2) : Prop := ∀ (C : Cn) (fl : List Addr) (σ : L2.St) (H : Hp) (e : En) (x y : D) (v u : V) (k : D → Prop) (R : VK), CnOk C → C.K = K → StR C fl σ H e → Pk K C fl e H x v → Pk K C fl e H y u → r x y k →
  (∀ z p H', k z → StR C (p :: fl) σ H' e → Later fl (Md C fl e) H (Md C (p :: fl) e) H' → Own K (Md C (p :: fl) e) H' z p → R (.ref p) H') → r2 v u H R
theorem rf_Q2 {r : DR2} {r2 : R2} (hpe : ∀ {t1 t2 : TE}, PE X a t1 → PE X b t2 → PE X ex (tOp r2 t1 t2)) (hr : LiftQ2F X.K r r2) (ha : RQ X a qa) (hb : RP X b tb) : RF X ex (mOpQ r qa tb) :=
  ⟨fun W tk => (hpe (ha.run W tk) (hb.run W tk)).of fun σ H R ⟨C, fl, e, Q, WD, G, ht, k⟩ => twoQ (Q := fun x y e2 => r x y fun z => Q z e2) G ht fun x y e2 v u H2 R2 l r1 r2' q => hr C fl σ H2 e2 x y v u _ _ G.ok G.k R2 r1 r2' q fun z p H' hz R3 l3 o => k z e2 p H' R3 (l.trans l3) o hz⟩
/-! ### a[i] -/
def oIx : DR2 := fun x y k => kI (fun i => match x with
  | .lst ds => ∃ d, atI ds i = some d ∧ k d
  | .tup ds => ∃ d, atI ds i = some d ∧ k d
  | .scr ds => ∃ d, atI ds i = some d ∧ k d
  | .str z => z.length ≤ sizeLine ∧ ∃ c, atI z.cps.toList i = some c ∧ k (.str ⟨#[c]⟩)
  | _ => False) y
theorem Reps.at {K : PySem.W.Frag} {M : Addr → Prop} {H : Hp} {ds : List D} {vs : List V} {i : Int} {d : D} (r : Reps K M H ds vs) (h : atI ds i = some d) : ∃ v, atI vs i = some v ∧ Rep K M H d v := by
  unfold atI at h ⊢
  rw [r.length] at h
  cases q : ixN vs.length i with
  | none => rw [q] at h; cases h
  | some j =>
    rw [q] at h
    exact r.get h
theorem lift_ix {K : PySem.W.Frag} : LiftQ2 K oIx (rIx K) := fun C fl σ H e x y v u k R ck st px py q0 z => by
  obtain ⟨i, rfl, q⟩ := kI_of q0
  obtain rfl := py.sc st ck rfl
  have sq : sqD x (fun ds => ∃ d, atI ds i = some d ∧ k d) → rIx K v (.int i) H R := fun hq => by
    obtain ⟨p, ds, vs, rfl, rs, ⟨d, hd, hk⟩, hh⟩ := px.sq st ck hq
    obtain ⟨w, hw, rw_⟩ := rs.at hd
    rcases hh with hh | hh
    · exact .inl ⟨p, vs, i, w, rfl, rfl, hh, hw, z d w hk rw_⟩
    · exact .inr (.inl ⟨p, vs, i, w, rfl, rfl, hh, hw, z d w hk rw_⟩)
  cases x with
  | lst ds => exact sq q
  | tup ds => exact sq q
  | scr ds => exact sq q
  | str s =>
    obtain rfl := px.sc st ck rfl
    obtain ⟨hz, c, hc, hk⟩ := q
    exact .inr (.inr ⟨s, i, c, rfl, rfl, hz, hc, z _ _ hk rfl⟩)
  | _ => exact q.elim
theorem re_ix (ha : RQ X a qa) (hb : RE X b tb) (hs : PlainIx b) : RE X (.Subscript a b pos) (mOpQ oIx qa tb) := re_Q2 (fun h1 h2 => pe_ix ix_seq h1 h2 hs) lift_ix ha hb.rp
/-! ### lists: + -/
def oCat : DR2 := fun x y k => match x, y with
  | .lst ds, .lst es => ds.length + es.length ≤ sizeLine ∧ k (.lst (ds ++ es))
  | _, _ => False
theorem lift_cat {K : PySem.W.Frag} : LiftQ2F K oCat rCat := fun C fl σ H e x y v u k R cn ck st px py q z => by
  cases x with
  | lst ds =>
    cases y with
    | lst es =>
      obtain ⟨hz, hk⟩ := q
      obtain ⟨p, vs, rfl, h1, r1⟩ := px.lst st ck
      obtain ⟨p2, ws, rfl, h2, r2⟩ := py.lst st ck
      refine ⟨p, p2, vs, ws, rfl, rfl, h1, h2, by rw [← r1.length, ← r2.length]; exact hz, fun l hl => ?_⟩
      obtain ⟨R2, l2⟩ := st.float cn (o := .lst (vs ++ ws)) hl trivial
      exact z _ _ _ hk R2 l2 ⟨_, upd_same, (r1.append r2).later l2⟩
    | _ => exact q.elim
  | _ => exact q.elim
theorem rf_cat (ha : RQ X a qa) (hb : RP X b tb) : RF X (.BinOp a .Add b pos) (mOpQ oCat qa tb) := rf_Q2 (fun h1 h2 => pe_op op_cat h1 h2) lift_cat ha hb
/-! ### x in xs, flat items -/
def oInF (neg : Bool) : DR2 := fun x y k => sqD y fun ds => isSc x = true ∧ ds.all isSc = true ∧ flatV (toV x) = true ∧ (ds.map toV).all flatV = true ∧ k (.bl (if neg then !inV (toV x) (ds.map toV) else inV (toV x) (ds.map toV)))
theorem Reps.flat {K : PySem.W.Frag} {M : Addr → Prop} {H : Hp} : ∀ {ds : List D} {vs : List V}, ds.all isSc = true → Reps K M H ds vs → vs = ds.map toV
  | [], _, _, h => h
  | d :: ds, _, a, ⟨v, r, e, h, t⟩ => by
    rw [List.all_cons, Bool.and_eq_true] at a
    rw [e, rep_toV a.1 h, Reps.flat a.2 t, List.map_cons]
theorem lift_in {K : PySem.W.Frag} {neg : Bool} : LiftQ2 K (oInF neg) (rIn K neg) := fun C fl σ H e x y v u k R ck st px py q z => by
  obtain ⟨p, ds, vs, rfl, rs, ⟨h1, h2, h3, h4, hk⟩, hh⟩ := py.sq st ck q
  obtain rfl := px.sc st ck h1
  obtain rfl := rs.flat h2
  exact ⟨p, _, rfl, hh, h3, h4, z _ _ hk rfl⟩
theorem re_in (ha : RE X a ta) (hb : RP X b tb) (hm : behindInMarks .In b = false := by rfl) : RE X (.Compare a [.In] [b] pos) (mOpQ (oInF false) (mQE ta) tb) := re_Q2 (fun h1 h2 => pe_cmpR op_in_seq h1 h2 hm) lift_in (rq_e ha) hb
theorem re_notin (ha : RE X a ta) (hb : RP X b tb) (hm : behindInMarks .NotIn b = false := by rfl) : RE X (.Compare a [.NotIn] [b] pos) (mOpQ (oInF true) (mQE ta) tb) := re_Q2 (fun h1 h2 => pe_cmpR op_notIn_seq h1 h2 hm) lift_in (rq_e ha) hb
theorem rt_in (ha : RE X a ta) (hb : RP X b tb) (hm : behindInMarks .In b = false := by rfl) : RT X (.Compare a [.In] [b] pos) (mTest (mOpQ (oInF false) (mQE ta) tb)) := rt_Q2 (fun h1 h2 => pt_cmpR op_in_seq h1 h2 hm) lift_in (rq_e ha) hb
theorem rt_notin (ha : RE X a ta) (hb : RP X b tb) (hm : behindInMarks .NotIn b = false := by rfl) : RT X (.Compare a [.NotIn] [b] pos) (mTest (mOpQ (oInF true) (mQE ta) tb)) := rt_Q2 (fun h1 h2 => pt_cmpR op_notIn_seq h1 h2 hm) lift_in (rq_e ha) hb
/-! ### == of data of any depth -/
mutual
def toP : D → PyData
  | .bl b => .bool b
  | .int i => .int i
  | .str x => .str x
  | .tup ds => .tuple (toPs ds)
  | .lst ds => .list (toPs ds)
  | .scr ds => .list (toPs ds)
  | _ => .none
def toPs : List D → List PyData
  | [] => []
  | d :: ds => toP d :: toPs ds
end
mutual
def isP : D → Bool
  | .bl _ => true
  | .int _ => true
  | .str _ => true
  | .non => true
  | .tup ds => isPs ds
  | .lst ds => isPs ds
  | .scr ds => isPs ds
  | _ => false
def isPs : List D → Bool
  | [] => true
  | d :: ds => isP d && isPs ds
end
mutual
theorem dp_of {K : PySem.W.Frag} {M : Addr → Prop} {H : Hp} : ∀ {d : D} {v : V}, isP d = true → Rep K M H d v → Dp K H v (toP d)
  | .bl b, _, _, r => by obtain rfl : _ = V.bl b := r; exact .bl b
  | .int b, _, _, r => by obtain rfl : _ = V.int b := r; exact .int b
  | .str b, _, _, r => by obtain rfl : _ = V.str b := r; exact .str b
  | .non, _, _, r => by obtain rfl : _ = V.non := r; exact .non
  | .tup ds, _, p, ⟨a, vs, e, h, r⟩ => by subst e; exact .tup h (dps_of (by simpa [isP] using p) r)
  | .lst ds, _, p, ⟨a, vs, e, n, h, r⟩ => by subst e; exact .lst (SqL.of h) (dps_of (by simpa [isP] using p) r)
  | .scr ds, _, p, ⟨a, vs, e, h, r⟩ => by
    subst e
    refine .lst ?_ (dps_of (by simpa [isP] using p) r)
    rcases h with ⟨o, h⟩ | h
    · exact .inl (.inr ⟨o, h⟩)
    · exact .inr h
  | .dct _, _, p, _ => by simp [isP] at p
  | .obj _ _, _, p, _ => by simp [isP] at p
  | .adr _, _, p, _ => by simp [isP] at p
  | .exc _ _ _ _, _, p, _ => by simp [isP] at p
theorem dps_of {K : PySem.W.Frag} {M : Addr → Prop} {H : Hp} : ∀ {ds : List D} {vs : List V}, isPs ds = true → Reps K M H ds vs → DpAll K H vs (toPs ds)
  | [], _, _, h => by obtain rfl : _ = [] := h; exact .nil
  | d :: ds, _, p, ⟨v, r, e, h, t⟩ => by
    subst e
    have p' : isP d = true ∧ isPs ds = true := by simpa [isPs] using p
    exact .cons (dp_of p'.1 h) (dps_of p'.2 t)
end
theorem Pk.dp {K : PySem.W.Frag} {C : Cn} {fl : List Addr} {σ : L2.St} {H : Hp} {e : En} {d : D} {v : V} (h : Pk K C fl e H d v) (R : StR C fl σ H e) (ck : C.K = K) (p : isP d = true) : Dp K H v (toP d) := by
  rcases h.cases R ck with h1 | ⟨i, a, _, rfl, h2⟩
  · exact dp_of p h1
  · cases d with
    | lst ds => obtain ⟨vs, h3, r⟩ := h2; exact .lst (SqL.of h3) (dps_of (by simpa [isP] using p) r)
    | dct _ => simp [isP] at p
    | obj _ _ => simp [isP] at p
    | _ => exact h2.elim
def oEqD : DR2 := fun x y k => isP x = true ∧ isP y = true ∧ SeqAt.shaped (toP x) = true ∧ SeqAt.shaped (toP y) = true ∧ k (.bl (PyData.eqv (toP x) (toP y)))
def oNeD : DR2 := fun x y k => isP x = true ∧ isP y = true ∧ SeqAt.shaped (toP x) = true ∧ SeqAt.shaped (toP y) = true ∧ k (.bl (!PyData.eqv (toP x) (toP y)))
theorem lift_eqD {K : PySem.W.Frag} : LiftQ2 K oEqD (rEqD K) := fun C fl σ H e x y v u k R ck st px py ⟨p1, p2, s1, s2, q⟩ z => ⟨_, _, px.dp st ck p1, py.dp st ck p2, s1, s2, z _ _ q rfl⟩
theorem lift_neD {K : PySem.W.Frag} : LiftQ2 K oNeD (rNeD K) := fun C fl σ H e x y v u k R ck st px py ⟨p1, p2, s1, s2, q⟩ z => ⟨_, _, px.dp st ck p1, py.dp st ck p2, s1, s2, z _ _ q rfl⟩
theorem re_eqD (hu : X.A.units + 64 < cLine) (ha : RQ X a qa) (hb : RP X b tb) (hm : behindInMarks .Eq b = false) : RE X (.Compare a [.Eq] [b] pos) (mOpQ oEqD qa tb) := re_Q2 (fun h1 h2 => pe_cmpR (op_eqD hu) h1 h2 hm) lift_eqD ha hb
theorem re_neD (hu : X.A.units + 64 < cLine) (ha : RQ X a qa) (hb : RP X b tb) (hm : behindInMarks .NotEq b = false) : RE X (.Compare a [.NotEq] [b] pos) (mOpQ oNeD qa tb) := re_Q2 (fun h1 h2 => pe_cmpR (op_neD hu) h1 h2 hm) lift_neD ha hb
theorem rt_eqD (hu : X.A.units + 64 < cLine) (ha : RQ X a qa) (hb : RP X b tb) (hm : behindInMarks .Eq b = false) : RT X (.Compare a [.Eq] [b] pos) (mTest (mOpQ oEqD qa tb)) := rt_Q2 (fun h1 h2 => pt_cmpR (op_eqD hu) h1 h2 hm) lift_eqD ha hb
theorem rt_neD (hu : X.A.units + 64 < cLine) (ha : RQ X a qa) (hb : RP X b tb) (hm : behindInMarks .NotEq b = false) : RT X (.Compare a [.NotEq] [b] pos) (mTest (mOpQ oNeD qa tb)) := rt_Q2 (fun h1 h2 => pt_cmpR (op_neD hu) h1 h2 hm) lift_neD ha hb
/-! ### slices -/
abbrev MO := En → (Option Int → En → Prop) → WE → Prop
def cO (K : PySem.W.Frag) (W : WX) (t : MO) : TO := fun σ H R => ∃ C fl e Q WD, Gd K W C fl σ H e WD ∧ t e Q WD ∧ ∀ o e' H', StR C fl σ H' e' → Later fl (Md C fl e) H (Md C fl e') H' → Q o e' → R o H'
structure RO (X : Cx) (e : Option Expr) (t : MO) : Prop where
  run : ∀ W, Takes X W → PO X e (cO X.K W t)
theorem _root_.L2.PO.of {X : Cx} {e : Option Expr} {t u : TO} (h : PO X e t) (i : ∀ σ H Q, u σ H Q → t σ H Q) : PO X e u := ⟨fun pins s σ H Q I w => h.run pins s σ H Q I (i _ _ _ w)⟩
def mO0 : MO := fun e Q _ => Q none e
def mO1 (t : ME) : MO := fun e Q W => t e (fun x e1 => kI (fun i => Q (some i) e1) x) W
theorem ro_none : RO X none mO0 := ⟨fun W tk => po_none.of fun σ H R ⟨C, fl, e, Q, WD, G, ht, k⟩ => k none e H G.st .refl ht⟩
theorem ro_some (h : RE X e t) : RO X (some e) (mO1 t) := ⟨fun W tk => (po_some (h.run W tk)).of fun σ H R ⟨C, fl, e, Q, WD, G, ht, k⟩ => ⟨C, fl, e, _, WD, G, ht, fun d e1 v H1 R1 l r q => by
  obtain ⟨i, rfl, hq⟩ := kI_of q
  exact ⟨i, r, k (some i) e1 H1 R1 l hq⟩⟩⟩
def cutD (ds : List D) (lo hi : Option Int) : List D := (ds.drop (HT.sIx ds.length 0 lo)).take (HT.sIx ds.length ds.length hi - HT.sIx ds.length 0 lo)
theorem Reps.cut {K : PySem.W.Frag} {M : Addr → Prop} {H : Hp} {ds : List D} {vs : List V} (lo hi : Option Int) (r : Reps K M H ds vs) : Reps K M H (cutD ds lo hi) (cutV vs lo hi) := by
  unfold cutD cutV
  rw [r.length]
  exact (r.drop _).take _
variable {lo hi : Option Expr} {ol oh : MO} {p2 : Pos}
def mSlL (qa : MQ) (ol oh : MO) : ME := fun e Q W => qa e (fun p e1 => ol e1 (fun l e2 => oh e2 (fun h e3 => rsD e3 p fun x => match x with | .lst ds => Q (.lst (cutD ds l h)) e3 | .scr ds => Q (.lst (cutD ds l h)) e3 | _ => False) W) W) W
theorem rf_slL (ha : RQ X a qa) (hl : RO X lo ol) (hh : RO X hi oh) : RF X (.Subscript a (.Slice lo hi none p2) pos) (mSlL qa ol oh) :=
  ⟨fun W tk => (pe_slice sl_list (ha.run W tk) (hl.run W tk) (hh.run W tk)).of fun σ H R ⟨C, fl, e, Q, WD, G, ht, k⟩ =>
    ⟨C, fl, e, _, WD, G, ht, fun p e1 v H1 R1 l1 r1 q1 => ⟨C, fl, e1, _, WD, G.to R1, q1, fun l e2 H2 R2 l2 q2 => ⟨C, fl, e2, _, WD, G.to R2, q2, fun h e3 H3 R3 l3 q3 => by
      obtain ⟨x, px, hq⟩ := (r1.later (l2.trans l3)).res R3 G.k q3
      have key : ∃ p ds vs, v = .ref p ∧ SqL X.K H3 p vs ∧ Reps X.K (Md C fl e3) H3 ds vs ∧ Q (.lst (cutD ds l h)) e3 := by
        cases x with
        | lst ds =>
          obtain ⟨p, vs, ev, hv, r⟩ := px.lst R3 G.k
          exact ⟨p, ds, vs, ev, SqL.of hv, r, hq⟩
        | scr ds =>
          obtain ⟨p, ds', vs, ev, r, hk, hh⟩ := px.sq (k := fun ds => Q (.lst (cutD ds l h)) e3) R3 G.k hq
          rcases px.cases R3 G.k with ⟨p', vs', e', h', r'⟩ | ⟨_, _, _, _, z⟩
          · refine ⟨p', ds, vs', e', ?_, r', hq⟩
            rcases h' with ⟨o, h'⟩ | h'
            · exact .inl (.inr ⟨o, h'⟩)
            · exact .inr h'
          · exact z.elim
        | _ => exact hq.elim
      obtain ⟨p, ds, vs, rfl, hs, r, hq⟩ := key
      refine ⟨p, vs, rfl, hs, fun b hb => ?_⟩
      obtain ⟨R4, l4⟩ := R3.float G.ok (o := .lst (cutV vs l h)) hb trivial
      exact k (.lst (cutD ds l h)) e3 b _ R4 (((l1.trans l2).trans l3).trans l4) ⟨_, upd_same, (r.cut l h).later l4⟩ hq⟩⟩⟩⟩
def mSlS (qa : MQ) (ol oh : MO) : ME := fun e Q W => qa e (fun p e1 => ol e1 (fun l e2 => oh e2 (fun h e3 => rsD e3 p (kS fun z => z.length ≤ sizeLine ∧ Q (.str (cutS z l h)) e3)) W) W) W
theorem re_slS (ha : RQ X a qa) (hl : RO X lo ol) (hh : RO X hi oh) : RE X (.Subscript a (.Slice lo hi none p2) pos) (mSlS qa ol oh) :=
  ⟨fun W tk => (pe_slice sl_str (ha.run W tk) (hl.run W tk) (hh.run W tk)).of fun σ H R ⟨C, fl, e, Q, WD, G, ht, k⟩ =>
    ⟨C, fl, e, _, WD, G, ht, fun p e1 v H1 R1 l1 r1 q1 => ⟨C, fl, e1, _, WD, G.to R1, q1, fun l e2 H2 R2 l2 q2 => ⟨C, fl, e2, _, WD, G.to R2, q2, fun h e3 H3 R3 l3 q3 => by
      obtain ⟨x, px, hq⟩ := (r1.later (l2.trans l3)).res R3 G.k q3
      obtain ⟨z, rfl, hz, hq⟩ := kS_of hq
      obtain rfl := px.sc R3 G.k rfl
      exact ⟨z, rfl, hz, k (.str (cutS z l h)) e3 _ H3 R3 ((l1.trans l2).trans l3) rfl hq⟩⟩⟩⟩⟩
/-! ### methods of texts -/
/-- x.m(y), both texts, a flat answer -/
def mMS (g : Str → Str → D) (ta tb : ME) : ME := fun e Q W => ta e (fun x e1 => tb e1 (fun y e2 => kS (fun i => kS (fun j => Q (g i j) e2) y) x) W) W
theorem re_MS {ex : Expr} {g : Str → Str → D} {r : V → List V → Hp → VK → Prop} (hpe : ∀ {t1 t2 : TE}, PE X a t1 → PE X b t2 → PE X ex (tM1 r t1 t2)) (hg : ∀ i j, isSc (g i j) = true) (hr : ∀ i j H Q, Q (toV (g i j)) H → r (.str i) [.str j] H Q)
    (ha : RE X a ta) (hb : RE X b tb) (hk : ∀ e Q W, mMS g ta tb e Q W → ta e (fun x e1 => kS (fun _ => tb e1 (fun y e2 => kS (fun i => kS (fun j => Q (g i j) e2) y) x) W) x) W) : RE X ex (mMS g ta tb) :=
  ⟨fun W tk => (hpe (ha.run W tk) (hb.run W tk)).of fun σ H R ⟨C, fl, e, Q, WD, G, ht, k⟩ => ⟨C, fl, e, _, WD, G, hk _ _ _ ht, fun x e1 v H1 R1 l1 r1 q1 => by
    obtain ⟨i, rfl, q1⟩ := kS_of q1
    obtain rfl : v = .str i := r1
    refine ⟨⟨i, rfl⟩, C, fl, e1, _, WD, G.to R1, q1, fun y e2 u H2 R2 l2 r2 q2 => ?_⟩
    obtain ⟨j, rfl, q3⟩ := kS_of (show kS (fun j => Q (g i j) e2) y from q2)
    obtain rfl : u = .str j := r2
    exact hr i j H2 _ (k _ e2 _ H2 R2 (l1.trans l2) (toV_rep (hg i j)) q3)⟩⟩
/-- x.split(sep) -/
def mSplit (ta tb : ME) : ME := fun e Q W => ta e (fun x e1 => kS (fun i => tb e1 (fun y e2 => kS (fun j => (j.length == 0) = false ∧ i.length + 2 ≤ sizeLine ∧ Q (.lst ((Txt.split i j).map D.str)) e2) y) W) x) W
theorem reps_strs {K : PySem.W.Frag} {M : Addr → Prop} {H : Hp} : ∀ ys : List Str, Reps K M H (ys.map D.str) (ys.map V.str)
  | [] => rfl
  | y :: ys => ⟨_, _, rfl, rfl, reps_strs ys⟩
theorem rf_split {apos : Pos} (ha : RE X a ta) (hb : RE X b tb) (hs : starEach [b] X.env = [(false, eval b X.env)] := by rfl) (hbase : attributeBase a "split" X.env (eval a X.env) = eval a X.env := by rfl) (hline : (apos.endLine == pos.line) = true := by rfl) :
    RF X (.Call (.Attribute a "split" apos) [b] [] pos) (mSplit ta tb) :=
  ⟨fun W tk => (pe_split (ha.run W tk) (hb.run W tk) hs hbase hline).of fun σ H R ⟨C, fl, e, Q, WD, G, ht, k⟩ => ⟨C, fl, e, _, WD, G, ht, fun x e1 v H1 R1 l1 r1 q1 => by
    obtain ⟨i, rfl, q1⟩ := kS_of q1
    obtain rfl : v = .str i := r1
    refine ⟨⟨i, rfl⟩, C, fl, e1, _, WD, G.to R1, q1, fun y e2 u H2 R2 l2 r2 q2 => ?_⟩
    obtain ⟨j, rfl, h1, h2, q3⟩ := kS_of q2
    obtain rfl : u = .str j := r2
    refine ⟨i, j, rfl, rfl, h1, h2, fun p hp => ?_⟩
    obtain ⟨R3, l3⟩ := R2.float G.ok (o := .lst ((Txt.split i j).map V.str)) hp trivial
    exact k (.lst ((Txt.split i j).map D.str)) e2 p _ R3 ((l1.trans l2).trans l3) ⟨_, upd_same, reps_strs _⟩ q3⟩⟩
/-- sep.join(texts) -/
def unS : List D → Option (List Str)
  | [] => some []
  | .str x :: r => (unS r).map (x :: ·)
  | _ => none
theorem unS_of : ∀ {ds : List D} {ys : List Str}, unS ds = some ys → ds = ys.map D.str
  | [], ys, h => by cases h; rfl
  | .str x :: r, ys, h => by
    unfold unS at h
    cases q : unS r with
    | none => rw [q] at h; cases h
    | some zs => rw [q] at h; cases h; rw [unS_of q]; rfl
  | .non :: _, _, h => by cases h
  | .bl _ :: _, _, h => by cases h
  | .int _ :: _, _, h => by cases h
  | .tup _ :: _, _, h => by cases h
  | .lst _ :: _, _, h => by cases h
  | .scr _ :: _, _, h => by cases h
  | .dct _ :: _, _, h => by cases h
  | .obj _ _ :: _, _, h => by cases h
  | .adr _ :: _, _, h => by cases h
  | .exc _ _ _ _ :: _, _, h => by cases h
theorem unS_map : ∀ ys : List Str, unS (ys.map D.str) = some ys
  | [] => rfl
  | y :: ys => by
    show (unS (ys.map D.str)).map (y :: ·) = some (y :: ys)
    rw [unS_map ys]
    rfl
theorem Reps.strs {K : PySem.W.Frag} {M : Addr → Prop} {H : Hp} : ∀ {ys : List Str} {vs : List V}, Reps K M H (ys.map D.str) vs → vs = ys.map V.str
  | [], _, h => h
  | y :: ys, _, ⟨v, r, e, h, t⟩ => by
    obtain rfl : v = .str y := h
    rw [e, Reps.strs t]
    rfl
def mJoin (ta tb : ME) : ME := fun e Q W => ta e (fun x e1 => kS (fun i => tb e1 (fun y e2 => sqD y fun ds => ∃ ys, unS ds = some ys ∧ (ys.map (·.length)).sum + ys.length * i.length ≤ 16777216 ∧ Q (.str (Txt.join i ys)) e2) W) x) W
theorem re_join {apos : Pos} (ha : RE X a ta) (hb : RP X b tb) (hs : starEach [b] X.env = [(false, eval b X.env)] := by rfl) (hbase : attributeBase a "join" X.env (eval a X.env) = eval a X.env := by rfl) (hline : (apos.endLine == pos.line) = true := by rfl) :
    RE X (.Call (.Attribute a "join" apos) [b] [] pos) (mJoin ta tb) :=
  ⟨fun W tk => (pe_join (ha.run W tk) (hb.run W tk) hs hbase hline).of fun σ H R ⟨C, fl, e, Q, WD, G, ht, k⟩ => ⟨C, fl, e, _, WD, G, ht, fun x e1 v H1 R1 l1 r1 q1 => by
    obtain ⟨i, rfl, q1⟩ := kS_of q1
    obtain rfl : v = .str i := r1
    refine ⟨⟨i, rfl⟩, C, fl, e1, _, WD, G.to R1, q1, fun y e2 u H2 R2 l2 r2 q2 => ?_⟩
    obtain ⟨p, ds, vs, rfl, rs, ⟨ys, hy, hz, hq⟩, hh⟩ := r2.sq R2 G.k q2
    obtain rfl := unS_of hy
    obtain rfl := rs.strs
    exact ⟨i, p, ys, rfl, rfl, hh, hz, k (.str (Txt.join i ys)) e2 _ H2 R2 (l1.trans l2) rfl hq⟩⟩⟩
end
end DL
set_option maxHeartbeats 2000000
namespace DL
open PySem L2
/-! ### what a def promises -/
abbrev SpD := List Slot → (Slot → List D → Prop) → (Addr → List (Str × D) → List D → Prop) → Prop
inductive OwnsOk (K : PySem.W.Frag) (M : Addr → Prop) (H : Hp) : List Addr → List D → Prop
  | nil : OwnsOk K M H [] []
  | cons {a : Addr} {x : D} {as : List Addr} {xs : List D} : Own K M H x a → OwnsOk K M H as xs → OwnsOk K M H (a :: as) (x :: xs)
def RetOk (K : PySem.W.Frag) (M : Addr → Prop) (H : Hp) (as : List Slot) (r : Slot) (xs : List D) (v : V) (H' : Hp) : Prop :=
  (∀ b o, H b = some o → b ∉ owns as → H' b = some o) ∧ match r with
  | .d x => OwnsOk K (fun b => M b ∨ b ∈ owns as) H' (owns as) xs ∧ Rep K (fun b => M b ∨ b ∈ owns as) H' x v
  | .own a x => H a = none ∧ v = .ref a ∧ OwnsOk K (fun b => (M b ∨ b ∈ owns as) ∨ b = a) H' (owns as) xs ∧ Own K (fun b => (M b ∨ b ∈ owns as) ∨ b = a) H' x a
  | .un => False
def mkSp (K : PySem.W.Frag) (n : Nat) (sp : SpD) : Sp := fun vs H Q E => ∃ (M : Addr → Prop) (as : List Slot) (Qd : Slot → List D → Prop) (Ed : Addr → List (Str × D) → List D → Prop), as.length = n ∧ vs.length = n ∧
  (∀ a, M a → ∃ o, H a = some o ∧ MutO o) ∧ (∀ a ∈ owns as, ¬ M a) ∧ (owns as).Nodup ∧ (∀ (i : Nat) (s : Slot), as[i]? = some s → SlotOk K (fun b => M b ∨ b ∈ owns as) H s vs[i]?) ∧ sp as Qd Ed ∧
  (∀ r xs v H', RetOk K M H as r xs v H' → Qd r xs → Q v H') ∧
  (∀ Ca dd fs fvs xs H', (∀ b o, H b = some o → b ∉ owns as → H' b = some o) → OwnsOk K (fun b => M b ∨ b ∈ owns as) H' (owns as) xs → H' dd = some (.xd fvs) → RepF K (fun b => M b ∨ b ∈ owns as) H' fs fvs → Ed Ca fs xs → E (.ref Ca) (some dd) H')
/-- what the objects handed over hold at the end -/
def Outs : List Slot → En → List D → Prop
  | .own a _ :: as, s :: es, x :: xs => s = .own a x ∧ Outs as es xs
  | .own _ _ :: _, _, _ => False
  | .d _ :: as, _ :: es, xs => Outs as es xs
  | .un :: as, _ :: es, xs => Outs as es xs
  | [], _, xs => xs = []
  | _, [], _ => False
theorem Outs.ok {K : PySem.W.Frag} {M M' : Addr → Prop} {H : Hp} : ∀ {as : List Slot} {es : En} {xs : List D}, Outs as es xs → (∀ s ∈ es, ∀ a x, s = .own a x → Own K M H x a) → (∀ b, M' b → M b) → OwnsOk K M' H (owns as) xs
  | [], _, xs, h, _, _ => by obtain rfl : xs = [] := h; exact .nil
  | .own a y :: as, s :: es, x :: xs, h, k, l => by
    obtain ⟨rfl, h⟩ := h
    show OwnsOk K M' H (a :: owns as) (x :: xs)
    exact .cons ((k _ List.mem_cons_self a x rfl).later (.same l) rfl) (Outs.ok h (fun s hs => k s (List.mem_cons_of_mem _ hs)) l)
  | .own a y :: as, [], _, h, _, _ => h.elim
  | .own a y :: as, s :: es, [], h, _, _ => h.elim
  | .d y :: as, s :: es, xs, h, k, l => Outs.ok (as := as) h (fun s hs => k s (List.mem_cons_of_mem _ hs)) l
  | .un :: as, s :: es, xs, h, k, l => Outs.ok (as := as) h (fun s hs => k s (List.mem_cons_of_mem _ hs)) l
  | .d y :: as, [], xs, h, k, l => h.elim
  | .un :: as, [], xs, h, k, l => h.elim
theorem Outs.mem : ∀ {as : List Slot} {es : En} {xs : List D}, Outs as es xs → ∀ a ∈ owns as, a ∈ owns es
  | [], _, _, _, a, h => by cases h
  | .own a y :: as, s :: es, x :: xs, h, b, hb => by
    obtain ⟨rfl, h⟩ := h
    rw [owns_cons]
    have hb' : b ∈ a :: owns as := hb
    rcases List.mem_cons.mp hb' with rfl | hb'
    · exact List.mem_append_left _ List.mem_cons_self
    · exact List.mem_append_right _ (Outs.mem h b hb')
  | .own a y :: as, [], _, h, _, _ => h.elim
  | .own a y :: as, s :: es, [], h, _, _ => h.elim
  | .d y :: as, s :: es, xs, h, b, hb => by rw [owns_cons]; exact List.mem_append_right _ (Outs.mem (as := as) h b hb)
  | .un :: as, s :: es, xs, h, b, hb => by rw [owns_cons]; exact List.mem_append_right _ (Outs.mem (as := as) h b hb)
  | .d y :: as, [], xs, h, _, _ => h.elim
  | .un :: as, [], xs, h, _, _ => h.elim
theorem owns_un (n : Nat) : owns (List.replicate n Slot.un) = [] := by
  induction n with
  | zero => rfl
  | succ n ih => rw [List.replicate_succ, owns_cons, ih]; rfl
structure FnD (P : Program) (w : World) (K : PySem.W.Frag) (mg : Str → Option Value) (base : Heap) (k : Nat) (f : Addr) (fd : FuncData) (ps : List Str) (sp : SpD) : Prop where
  ok : FnOk P w K mg base (L2.CX P w) k f fd ps (mkSp K ps.length sp)
/-- the ends of a def's body -/
@[simp] def dEnds (as : List Slot) (Qd : Slot → List D → Prop) : MEnds := ⟨fun e => ∃ xs, Outs as e xs ∧ Qd (.d .non) xs, fun r e => ∃ xs, Outs as e xs ∧ Qd r xs, fun _ => False, fun _ => False⟩
@[simp] def dWish (as : List Slot) (Ed : Addr → List (Str × D) → List D → Prop) : WE := fun Ca fs e => ∃ xs, Outs as e xs ∧ Ed Ca fs xs
section
variable {P : Program} {w : World} {K : PySem.W.Frag} {mg : Str → Option Value} {base : Heap}
theorem StR.owned {C : Cn} {fl : List Addr} {σ : L2.St} {H : Hp} {e : En} (R : StR C fl σ H e) : ∀ s ∈ e, ∀ a x, s = .own a x → Own C.K (Md C fl e) H x a := fun s hs a x q => by
  obtain ⟨i, hi⟩ := List.getElem?_of_mem hs
  subst q
  exact (R.getO hi).2
/-- THE RULE for a def -/
theorem fnD_of {x qual : Str} {st : Stmt} {f : Addr} {fd : FuncData} {N ps : List Str} {k : Nat} {sp : SpD} {t : MS} (F : Fun K x qual st f fd) (S : FnScope N ps (defScope st))
    (hb : ∀ (cdv : Value) (A : Around) (outer : List Env) (s : Shared) (H : Hp) (E : XK), Room k (A.deeper (PyProof.Rows.envOfC qual (defScope st) s.heap.objs.size f cdv)) →
      RSs (cxOf (L2.CX P w) P w K mg base N qual (defScope st) f cdv A outer s H E) (defBody st) t)
    (hs : ∀ as Qd Ed, as.length = ps.length → sp as Qd Ed → t (dEnds as Qd) (as ++ List.replicate (N.length - ps.length) .un) (dWish as Ed)) : FnD P w K mg base (k + 1) f fd ps sp := by
  refine ⟨F.okX S (fun vs H Q E ⟨_, _, _, _, _, hl, _⟩ => hl) (fun cdv A outer s H vs Q E hr h => ?_)⟩
  obtain ⟨M, as, Qd, Ed, hla, hlv, hM, hdis, hnd, hsl, hsp, hQ, hE⟩ := h
  refine ⟨_, (hb cdv A outer s H E hr).run _ (takes_of rfl rfl rfl rfl), ?_⟩
  have hps : ps.length ≤ N.length := by
    have h1 := congrArg List.length S.pre
    rw [List.length_take] at h1
    omega
  have ow : owns (as ++ List.replicate (N.length - ps.length) Slot.un) = owns as := by rw [owns_append, owns_un, List.append_nil]
  let C : Cn := ⟨K, M, H, owns as⟩
  have eM : ∀ b, (M b ∨ b ∈ owns as) → Md C [] (as ++ List.replicate (N.length - ps.length) Slot.un) b := fun b h => by
    rcases h with h | h
    · exact .inl h
    · exact .inr (.inl (by rw [ow]; exact h))
  have eM' : ∀ b, Md C [] (as ++ List.replicate (N.length - ps.length) Slot.un) b → (M b ∨ b ∈ owns as) := fun b h => by
    rcases h with h | h | h
    · exact .inl h
    · rw [ow] at h; exact .inr h
    · cases h
  have ot : ∀ b ∈ owns as, ∃ o, H b = some o ∧ MutO o := fun b hb => by
    obtain ⟨i, y, hi⟩ := mem_owns.mp hb
    have := (hsl i _ hi).2
    exact this.mut
  have cn : CnOk C := ⟨fun a h => ⟨fun z => hdis a z h, hM a h⟩⟩
  have st : StR C [] (L2.start N vs) H (as ++ List.replicate (N.length - ps.length) Slot.un) := by
    refine ⟨by unfold L2.start; simp only [List.length_append, List.length_replicate, List.length_map]; omega, fun i s hi => ?_, by rw [ow, List.append_nil]; exact hnd, fun a h => ?_, fun a h => ?_, fun _ _ h _ => h, fun b h => ?_⟩
    · by_cases hlt : i < as.length
      · rw [List.getElem?_append_left hlt] at hi
        have hj : ((L2.start N vs)[i]?).join = vs[i]? := by
          unfold L2.start
          rw [List.getElem?_append_left (by rw [List.length_map]; omega), List.getElem?_map]
          cases vs[i]? <;> rfl
        rw [hj]
        exact (hsl i s hi).later (.same eM') fun _ _ _ => rfl
      · rw [List.getElem?_append_right (by omega), List.getElem?_replicate] at hi
        split at hi
        · cases hi; trivial
        · cases hi
    · rcases eM' a h with h | h
      · exact hM a h
      · exact ot a h
    · rcases h with h | h
      · exact .inl (by rw [ow] at h; exact h)
      · cases h
    · obtain ⟨o, ho, _⟩ := ot b h
      exact ⟨o, ho⟩
  have less : ∀ {e' xs}, Outs as e' xs → ∀ b, (M b ∨ b ∈ owns as) → Md C [] e' b := fun {e' xs} ho b h => by
    rcases h with h | h
    · exact .inl h
    · exact .inr (.inl (ho.mem b h))
  refine ⟨C, _, dEnds as Qd, dWish as Ed, ⟨rfl, cn, st, ?_⟩, hs as Qd Ed hla hsp, ?_, ?_, fun _ _ _ _ z => z.elim, fun _ _ _ _ z => z.elim⟩
  · intro Ca dd fs fvs σ' H' e' R' hd rf ⟨xs, ho, hed⟩
    exact hE Ca dd fs fvs xs H' R'.keep (ho.ok R'.owned (less ho)) hd (rf.later (.same (less ho))) hed
  · rintro e' σ' H' R' ⟨xs, ho, hq⟩
    exact hQ (.d .non) xs .non H' ⟨R'.keep, ho.ok R'.owned (less ho), rfl⟩ hq
  · rintro r e' v σ' H' R' ⟨xs, ho, hq⟩
    cases r with
    | un => exact R'.elim
    | d x =>
      obtain ⟨R', rp⟩ := R'
      exact hQ (.d x) xs v H' ⟨R'.keep, ho.ok R'.owned (less ho), rp.later (.same (less ho))⟩ hq
    | own a x =>
      obtain ⟨R', rfl, o⟩ := R'
      have na : H a = none := by
        rcases R'.new a (.inr List.mem_cons_self) with z | z
        · exact absurd rfl ((List.nodup_append.mp R'.nd).2.2 a (ho.mem a z) a List.mem_cons_self)
        · exact z
      have less2 : ∀ b, ((M b ∨ b ∈ owns as) ∨ b = a) → Md C [a] e' b := fun b h => by
        rcases h with (h | h) | rfl
        · exact .inl h
        · exact .inr (.inl (ho.mem b h))
        · exact .inr (.inr List.mem_cons_self)
      exact hQ (.own a x) xs (.ref a) H' ⟨R'.keep, na, rfl, ho.ok R'.owned less2, o.later (.same less2) rfl⟩ hq
end
/-! ### calls -/
def rsS (e : En) : Arg → Slot
  | .d x => .d x
  | .io i => (e[i]?).getD .un
def putB : En → List Arg → List D → En
  | e, .io i :: as, x :: xs => putB (match e[i]? with | some (.own a _) => e.set i (.own a x) | _ => e) as xs
  | e, .d _ :: as, xs => putB e as xs
  | e, [], _ => e
  | e, .io _ :: _, [] => e
def ioIx : List Arg → List Nat
  | [] => []
  | .io i :: as => i :: ioIx as
  | .d _ :: as => ioIx as
def nodupN : List Nat → Bool
  | [] => true
  | i :: l => !l.contains i && nodupN l
def findIO (j : Nat) : List Arg → List D → Option D
  | .io i :: as, x :: xs => if i = j then some x else findIO j as xs
  | .d _ :: as, xs => findIO j as xs
  | _, _ => none
theorem findIO_not {j : Nat} : ∀ {as : List Arg} {xs : List D}, j ∉ ioIx as → findIO j as xs = none
  | [], _, _ => rfl
  | .io i :: as, [], _ => rfl
  | .io i :: as, x :: xs, h => by
    have h' : j ≠ i ∧ j ∉ ioIx as := by simpa [ioIx] using h
    unfold findIO
    rw [if_neg (Ne.symm h'.1)]
    exact findIO_not h'.2
  | .d _ :: as, xs, h => findIO_not (as := as) h
def ownPut (x : D) : Option Slot → Option Slot
  | some (.own a _) => some (.own a x)
  | o => o
theorem putB_get {j : Nat} : ∀ {as : List Arg} {xs : List D} {e : En}, nodupN (ioIx as) = true → (putB e as xs)[j]? = match findIO j as xs with | some x => ownPut x e[j]? | none => e[j]?
  | [], _, _, _ => rfl
  | .io i :: as, [], _, _ => rfl
  | .d _ :: as, xs, e, h => putB_get (as := as) h
  | .io i :: as, x :: xs, e, h => by
    have h' : i ∉ ioIx as ∧ nodupN (ioIx as) = true := by simpa [ioIx, nodupN] using h
    unfold putB findIO
    rw [putB_get h'.2]
    by_cases hij : i = j
    · subst hij
      rw [if_pos rfl, findIO_not h'.1]
      cases q : e[i]? with
      | none => simp only; rw [q]; rfl
      | some s =>
        cases s with
        | own a y =>
          simp only
          rw [List.getElem?_set_self (List.getElem?_eq_some_iff.mp q).1]
          rfl
        | un => simp only; rw [q]; rfl
        | d y => simp only; rw [q]; rfl
    · rw [if_neg hij]
      have e1 : (match e[i]? with | some (.own a _) => e.set i (.own a x) | _ => e)[j]? = e[j]? := by
        split
        · exact List.getElem?_set_ne hij
        · rfl
      rw [e1]
theorem putB_len : ∀ {as : List Arg} {xs : List D} {e : En}, (putB e as xs).length = e.length
  | [], _, _ => rfl
  | .io i :: as, [], _ => rfl
  | .d _ :: as, xs, e => putB_len (as := as)
  | .io i :: as, x :: xs, e => by
    unfold putB
    rw [putB_len]
    split
    · rw [List.length_set]
    · rfl
theorem putB_owns : ∀ {as : List Arg} {xs : List D} {e : En}, owns (putB e as xs) = owns e
  | [], _, _ => rfl
  | .io i :: as, [], _ => rfl
  | .d _ :: as, xs, e => putB_owns (as := as)
  | .io i :: as, x :: xs, e => by
    unfold putB
    rw [putB_owns]
    split
    · rename_i a y h
      exact owns_set_same h
    · rfl
/-- the addresses handed over -/
theorem findIO_own {K : PySem.W.Frag} {M : Addr → Prop} {H' : Hp} {e : En} {j : Nat} {a : Addr} {y x : D} (hj : e[j]? = some (.own a y)) : ∀ {as : List Arg} {xs : List D}, (∀ i ∈ ioIx as, ∃ b z, e[i]? = some (.own b z)) → OwnsOk K M H' (owns (as.map (rsS e))) xs → findIO j as xs = some x → Own K M H' x a
  | [], _, _, _, h => by cases h
  | .d _ :: as, xs, k, o, h => findIO_own hj (as := as) k o h
  | .io i :: as, xs, k, o, h => by
    obtain ⟨b, z, hb⟩ := k i List.mem_cons_self
    have e1 : owns ((Arg.io i :: as).map (rsS e)) = b :: owns (as.map (rsS e)) := by
      rw [List.map_cons, owns_cons]
      show (ownA ((e[i]?).getD .un)).toList ++ _ = _
      rw [hb]; rfl
    rw [e1] at o
    cases o with
    | cons o1 o2 =>
      unfold findIO at h
      by_cases hij : i = j
      · subst hij
        rw [if_pos rfl] at h
        cases h
        rw [hj] at hb; cases hb
        exact o1
      · rw [if_neg hij] at h
        exact findIO_own hj (fun i hi => k i (List.mem_cons_of_mem _ hi)) o2 h
theorem findIO_some {K : PySem.W.Frag} {M : Addr → Prop} {H' : Hp} {e : En} {a : Addr} (nd : (owns e).Nodup) {j : Nat} {y : D} (hj : e[j]? = some (.own a y)) : ∀ {as : List Arg} {xs : List D}, (∀ i ∈ ioIx as, ∃ b z, e[i]? = some (.own b z)) → OwnsOk K M H' (owns (as.map (rsS e))) xs → a ∈ owns (as.map (rsS e)) → findIO j as xs ≠ none
  | [], _, _, _, h => by cases h
  | .d _ :: as, xs, k, o, h => findIO_some nd hj (as := as) k o h
  | .io i :: as, xs, k, o, h => by
    obtain ⟨b, z, hb⟩ := k i List.mem_cons_self
    have e1 : owns ((Arg.io i :: as).map (rsS e)) = b :: owns (as.map (rsS e)) := by
      rw [List.map_cons, owns_cons]
      show (ownA ((e[i]?).getD .un)).toList ++ _ = _
      rw [hb]; rfl
    rw [e1] at o h
    cases o with
    | cons o1 o2 =>
      unfold findIO
      by_cases hij : i = j
      · rw [if_pos hij]; intro q; cases q
      · rw [if_neg hij]
        rcases List.mem_cons.mp h with rfl | h
        · exact absurd (owns_nodup_ix nd hb hj) hij
        · exact findIO_some nd hj (fun i hi => k i (List.mem_cons_of_mem _ hi)) o2 h
theorem ArgsR.io {K : PySem.W.Frag} {M : Addr → Prop} {H : Hp} {e : En} : ∀ {as : List Arg} {vs : List V}, ArgsR K M H e as vs → ∀ i ∈ ioIx as, ∃ b z, e[i]? = some (Slot.own b z)
  | _, _, .nil, i, h => by cases h
  | .d _ :: as, _, .cons _ t, i, h => ArgsR.io t i h
  | .io j :: as, _, .cons r t, i, h => by
    rcases List.mem_cons.mp h with rfl | h
    · obtain ⟨a, x, hx, _⟩ := r
      exact ⟨a, x, hx⟩
    · exact ArgsR.io t i h
theorem ArgsR.slots {K : PySem.W.Frag} {C : Cn} {fl : List Addr} {σ : L2.St} {H : Hp} {e : En} (R : StR C fl σ H e) (ck : C.K = K) : ∀ {as : List Arg} {vs : List V}, ArgsR K (Md C fl e) H e as vs → ∀ (i : Nat) (s : Slot), (as.map (rsS e))[i]? = some s → SlotOk K (Md C fl e) H s vs[i]?
  | _, _, .nil, i, s, h => by simp at h
  | .d x :: as, v :: vs, .cons r t, 0, s, h => by
    have h' : Slot.d x = s := Option.some.inj h
    subst h'
    exact ⟨v, rfl, r⟩
  | .io j :: as, v :: vs, .cons r t, 0, s, h => by
    obtain ⟨a, x, hx, rfl⟩ := r
    have h' : (e[j]?).getD .un = s := Option.some.inj h
    rw [hx] at h'
    subst h'
    refine ⟨rfl, ?_⟩
    rw [← ck]
    exact (R.getO hx).2
  | x :: as, v :: vs, .cons r t, i + 1, s, h => ArgsR.slots R ck t i s h
theorem owns_rs {e : En} : ∀ {as : List Arg}, ∀ a ∈ owns (as.map (rsS e)), a ∈ owns e
  | [], a, h => by cases h
  | .d _ :: as, a, h => owns_rs (as := as) a h
  | .io i :: as, a, h => by
    rw [List.map_cons, owns_cons] at h
    rcases List.mem_append.mp h with h | h
    · have h' : a ∈ (ownA ((e[i]?).getD .un)).toList := h
      cases q : e[i]? with
      | none => rw [q] at h'; cases h'
      | some s =>
        rw [q] at h'
        cases s with
        | own b x =>
          have : a = b := by simpa [ownA] using h'
          subst this
          exact ownOf q
        | un => cases h'
        | d _ => cases h'
    · exact owns_rs (as := as) a h
theorem owns_rs_nodup {e : En} (nd : (owns e).Nodup) : ∀ {as : List Arg}, nodupN (ioIx as) = true → (owns (as.map (rsS e))).Nodup
  | [], _ => List.nodup_nil
  | .d _ :: as, h => owns_rs_nodup nd (as := as) h
  | .io i :: as, h => by
    have h' : i ∉ ioIx as ∧ nodupN (ioIx as) = true := by simpa [ioIx, nodupN] using h
    rw [List.map_cons, owns_cons]
    have ih := owns_rs_nodup nd h'.2
    show ((ownA ((e[i]?).getD .un)).toList ++ _).Nodup
    cases q : e[i]? with
    | none => exact ih
    | some s =>
      cases s with
      | un => exact ih
      | d _ => exact ih
      | own b x =>
        refine List.nodup_cons.mpr ⟨fun z => ?_, ih⟩
        have : ∀ {as : List Arg}, b ∈ owns (as.map (rsS e)) → i ∈ ioIx as := fun {as} => by
          induction as with
          | nil => intro z; cases z
          | cons p as ihh =>
            intro z
            cases p with
            | d _ => exact ihh z
            | io j =>
              rw [List.map_cons, owns_cons] at z
              rcases List.mem_append.mp z with z | z
              · have z' : b ∈ (ownA ((e[j]?).getD .un)).toList := z
                cases qj : e[j]? with
                | none => rw [qj] at z'; cases z'
                | some s =>
                  rw [qj] at z'
                  cases s with
                  | own c y =>
                    have : b = c := by simpa [ownA] using z'
                    subst this
                    rw [owns_nodup_ix nd q qj]
                    exact List.mem_cons_self
                  | un => cases z'
                  | d _ => cases z'
              · exact List.mem_cons_of_mem _ (ihh z)
        exact h'.1 (this z)
/-- the state behind a call -/
theorem StR.called {C : Cn} {fl fr : List Addr} {σ : L2.St} {H H' : Hp} {e : En} {as : List Arg} {xs : List D} (R : StR C fl σ H e) (nd : nodupN (ioIx as) = true) (hio : ∀ i ∈ ioIx as, ∃ b z, e[i]? = some (Slot.own b z))
    (kp : ∀ b o, H b = some o → b ∉ owns (as.map (rsS e)) → H' b = some o) (hfr : ∀ a ∈ fr, H a = none ∧ ∃ o, H' a = some o ∧ MutO o) (hn : fr.Nodup)
    (oo : OwnsOk C.K (fun b => Md C fl e b ∨ b ∈ fr) H' (owns (as.map (rsS e))) xs) :
    StR C (fr ++ fl) σ H' (putB e as xs) ∧ Later fl (Md C fl e) H (Md C (fr ++ fl) (putB e as xs)) H' := by
  have hOw := putB_owns (as := as) (xs := xs) (e := e)
  have eM : ∀ b, Md C (fr ++ fl) (putB e as xs) b → (Md C fl e b ∨ b ∈ fr) := fun b h => by
    rcases h with h | h | h
    · exact .inl (.inl h)
    · rw [hOw] at h; exact .inl (.inr (.inl h))
    · rcases List.mem_append.mp h with h | h
      · exact .inr h
      · exact .inl (.inr (.inr h))
  have tr : ∀ a, Md C fl e a → ∃ o, H a = some o := fun a h => let ⟨o, ho, _⟩ := R.al a h; ⟨o, ho⟩
  have l : Later fl (Md C fl e) H (Md C (fr ++ fl) (putB e as xs)) H' := by
    refine ⟨fun a h => ?_, fun b o hb n => kp b o hb fun z => ?_, fun b hb => ?_⟩
    · rcases eM a h with h | h
      · exact .inl h
      · exact .inr (hfr a h).1
    · have hm : Md C fl e b := .inr (.inl (owns_rs b z))
      obtain ⟨o', ho', m⟩ := R.al b hm
      rw [hb] at ho'; cases ho'
      rcases n with n | n
      · exact n hm
      · exact n m
    · obtain ⟨o, ho⟩ := tr b (.inr (.inr hb))
      rw [ho]
      exact kp b o ho fun z => (List.nodup_append.mp R.nd).2.2 b (owns_rs b z) b hb rfl
  have ndo : (owns e).Nodup := (List.nodup_append.mp R.nd).1
  refine ⟨⟨by rw [putB_len]; exact R.len, fun j s hj => ?_, ?_, fun a h => ?_, fun a h => ?_, fun b o hb n => ?_, fun b hb => ?_⟩, l⟩
  · rw [putB_get nd] at hj
    cases q : findIO j as xs with
    | none =>
      rw [q] at hj
      refine (R.sl j s hj).later l fun a x hx => ?_
      subst hx
      obtain ⟨o, ho⟩ := tr a (.inr (.inl (ownOf hj)))
      rw [ho]
      exact kp a o ho fun z => findIO_some ndo hj hio oo z q
    | some x =>
      rw [q] at hj
      simp only at hj
      cases qe : e[j]? with
      | none => rw [qe] at hj; cases hj
      | some s0 =>
        rw [qe] at hj
        cases s0 with
        | own a y =>
          obtain rfl : Slot.own a x = s := Option.some.inj hj
          exact ⟨(R.sl j _ qe).1, (findIO_own qe hio oo q).later (.same eM) rfl⟩
        | un =>
          obtain rfl : Slot.un = s := Option.some.inj hj
          trivial
        | d y =>
          obtain rfl : Slot.d y = s := Option.some.inj hj
          exact (R.sl j _ qe).later l fun _ _ z => by cases z
  · rw [hOw]
    have n1 := List.nodup_append.mp R.nd
    refine List.nodup_append.mpr ⟨n1.1, List.nodup_append.mpr ⟨hn, n1.2.1, fun a ha b hb z => ?_⟩, fun a ha b hb z => ?_⟩
    · subst z
      obtain ⟨o, ho⟩ := tr a (.inr (.inr hb))
      rw [(hfr a ha).1] at ho; cases ho
    · subst z
      rcases List.mem_append.mp hb with hb | hb
      · obtain ⟨o, ho⟩ := tr a (.inr (.inl ha))
        rw [(hfr a hb).1] at ho; cases ho
      · exact n1.2.2 a ha a hb rfl
  · rcases eM a h with h | h
    · by_cases z : a ∈ owns (as.map (rsS e))
      · have : ∀ {l : List Addr} {ys : List D}, OwnsOk C.K (fun b => Md C fl e b ∨ b ∈ fr) H' l ys → a ∈ l → ∃ o, H' a = some o ∧ MutO o := fun {l ys} o => by
          induction o with
          | nil => intro z; cases z
          | cons o1 _ ih =>
            intro z
            rcases List.mem_cons.mp z with rfl | z
            · exact o1.mut
            · exact ih z
        exact this oo z
      · obtain ⟨o, ho, m⟩ := R.al a h
        exact ⟨o, kp a o ho z, m⟩
    · exact (hfr a h).2
  · have key : (a ∈ owns e ∨ a ∈ fl) ∨ a ∈ fr := by
      rcases h with h | h
      · rw [hOw] at h; exact .inl (.inl h)
      · rcases List.mem_append.mp h with h | h
        · exact .inr h
        · exact .inl (.inr h)
    rcases key with h | h
    · exact R.new a h
    · cases z : C.H0 a with
      | none => exact .inr rfl
      | some o =>
        by_cases zi : a ∈ C.io
        · exact .inl zi
        · have := R.keep a o z zi
          rw [(hfr a h).1] at this; cases this
  · refine kp b o (R.keep b o hb n) fun z => ?_
    rcases R.new b (.inl (owns_rs b z)) with q | q
    · exact n q
    · rw [hb] at q; cases q
  · by_cases z : b ∈ owns (as.map (rsS e))
    · have : ∀ {l : List Addr} {ys : List D}, OwnsOk C.K (fun b => Md C fl e b ∨ b ∈ fr) H' l ys → b ∈ l → ∃ o, H' b = some o := fun {l ys} o => by
        induction o with
        | nil => intro z; cases z
        | cons o1 _ ih =>
          intro z
          rcases List.mem_cons.mp z with rfl | z
          · obtain ⟨o, ho, _⟩ := o1.mut
            exact ⟨o, ho⟩
          · exact ih z
      exact this oo z
    · obtain ⟨o, ho⟩ := R.iot b hb
      exact ⟨o, kp b o ho z⟩
end DL
set_option maxHeartbeats 2000000
namespace DL
open PySem L2
/-! ### f(..) -/
def rtD (Q : KE) (e : En) (as : List Arg) (r : Slot) (xs : List D) : Prop := match r with
  | .d x => Q x (putB e as xs)
  | .own _ x => Q x (putB e as xs)
  | .un => False
def rtF (Q : KE) (e : En) (as : List Arg) (r : Slot) (xs : List D) : Prop := match r with
  | .own _ x => Q x (putB e as xs)
  | _ => False
def mCall (sp : SpD) (dds : List D) (ta : MA) : ME := fun e Q W => ta e (fun as e1 => nodupN (ioIx as) = true ∧ sp (as.map (rsS e1) ++ dds.map .d) (rtD Q e1 as) (fun Ca fs xs => W Ca fs (putB e1 as xs))) W
def mCallF (sp : SpD) (dds : List D) (ta : MA) : ME := fun e Q W => ta e (fun as e1 => nodupN (ioIx as) = true ∧ sp (as.map (rsS e1) ++ dds.map .d) (rtF Q e1 as) (fun Ca fs xs => W Ca fs (putB e1 as xs))) W
theorem map_d_owns (ds : List D) : owns (ds.map Slot.d) = [] := by
  induction ds with
  | nil => rfl
  | cons d ds ih => rw [List.map_cons, owns_cons, ih]; rfl
theorem reps_slots {K : PySem.W.Frag} {M : Addr → Prop} {H : Hp} : ∀ {ds : List D} {vs : List V}, Reps K M H ds vs → ∀ (i : Nat) (s : Slot), (ds.map Slot.d)[i]? = some s → SlotOk K M H s vs[i]?
  | [], _, _, i, s, h => by simp at h
  | d :: ds, _, ⟨v, r, e, h, t⟩, 0, s, q => by
    subst e
    obtain rfl : Slot.d d = s := Option.some.inj q
    exact ⟨v, rfl, h⟩
  | d :: ds, _, ⟨v, r, e, h, t⟩, i + 1, s, q => by
    subst e
    exact reps_slots t i s q
theorem OwnsOk.less {K : PySem.W.Frag} {M M' : Addr → Prop} {H : Hp} (hm : ∀ b, M' b → M b) : ∀ {l : List Addr} {ys : List D}, OwnsOk K M H l ys → OwnsOk K M' H l ys
  | _, _, .nil => .nil
  | _, _, .cons o1 o2 => .cons (o1.later (.same hm) rfl) (OwnsOk.less hm o2)
/-- a callee's promise, asked at a state of ours -/
theorem ask {K : PySem.W.Frag} {W : WX} {C : Cn} {fl : List Addr} {σ : L2.St} {H : Hp} {e : En} {WD : WE} (G : Gd K W C fl σ H e WD) {sp : SpD} {dds : List D} {dvs vs : List V} {as : List Arg} {n : Nat} {Q : Slot → List D → Prop} {R : VK}
    (hd : Reps K (Md C fl e) H dds dvs) (rs : ArgsR K (Md C fl e) H e as vs) (hn : as.length + dds.length = n) (nd : nodupN (ioIx as) = true)
    (h : sp (as.map (rsS e) ++ dds.map .d) Q (fun Ca fs xs => WD Ca fs (putB e as xs)))
    (k : ∀ r xs, Q r xs → match r with
      | .d x => ∀ v H', StR C fl σ H' (putB e as xs) → Later fl (Md C fl e) H (Md C fl (putB e as xs)) H' → Rep K (Md C fl (putB e as xs)) H' x v → R v H'
      | .own a x => ∀ H', StR C (a :: fl) σ H' (putB e as xs) → Later fl (Md C fl e) H (Md C (a :: fl) (putB e as xs)) H' → Own K (Md C (a :: fl) (putB e as xs)) H' x a → R (.ref a) H'
      | .un => True) : mkSp K n sp (vs ++ dvs) H R (L2.WE W σ) := by
  have ck := G.k
  have st := G.st
  have hio := rs.io
  have hlen : as.length = vs.length := Paired.length rs
  have ow : owns (as.map (rsS e) ++ dds.map Slot.d) = owns (as.map (rsS e)) := by rw [owns_append, map_d_owns, List.append_nil]
  have ndo : (owns e).Nodup := (List.nodup_append.mp st.nd).1
  have sub : ∀ b, b ∈ owns (as.map (rsS e)) → Md C fl e b := fun b hb => .inr (.inl (owns_rs b hb))
  refine ⟨fun b => Md C fl e b ∧ b ∉ owns (as.map (rsS e)), as.map (rsS e) ++ dds.map Slot.d, Q, _, by simp only [List.length_append, List.length_map]; omega, by rw [List.length_append, ← hlen, ← hd.length]; exact hn, fun a ha => st.al a ha.1, fun a ha z => ?_, ?_, fun i s hi => ?_, h, ?_, ?_⟩
  · rw [ow] at ha; exact z.2 ha
  · rw [ow]; exact owns_rs_nodup ndo nd
  · have less : ∀ b, ((Md C fl e b ∧ b ∉ owns (as.map (rsS e))) ∨ b ∈ owns (as.map (rsS e) ++ dds.map Slot.d)) → Md C fl e b := fun b hb => by
      rcases hb with hb | hb
      · exact hb.1
      · rw [ow] at hb; exact sub b hb
    by_cases hlt : i < (as.map (rsS e)).length
    · rw [List.getElem?_append_left hlt] at hi
      rw [List.length_map] at hlt
      rw [List.getElem?_append_left (by omega)]
      exact (ArgsR.slots st ck rs i s hi).later (.same less) fun _ _ _ => rfl
    · rw [List.getElem?_append_right (by omega)] at hi
      rw [List.length_map] at hlt hi
      rw [List.getElem?_append_right (by omega), ← hlen]
      exact (reps_slots hd _ s hi).later (.same less) fun _ _ _ => rfl
  · intro r xs v H' hr hq
    have kk := k r xs hq
    have back : ∀ b, Md C fl e b → ((Md C fl e b ∧ b ∉ owns (as.map (rsS e))) ∨ b ∈ owns (as.map (rsS e))) := fun b hb => by
      by_cases z : b ∈ owns (as.map (rsS e))
      · exact .inr z
      · exact .inl ⟨hb, z⟩
    obtain ⟨kp, hr⟩ := hr
    cases r with
    | un => exact hr.elim
    | d x =>
      obtain ⟨oo, rp⟩ := hr
      rw [ow] at oo rp kp
      have oo' : OwnsOk C.K (fun b => Md C fl e b ∨ b ∈ ([] : List Addr)) H' (owns (as.map (rsS e))) xs := by
        rw [ck]
        exact oo.less fun b hb => back b (hb.elim id fun z => nomatch z)
      obtain ⟨R2, l2⟩ := st.called (fr := []) nd hio kp (fun _ z => nomatch z) List.nodup_nil oo'
      refine kk v H' R2 l2 (rp.later (.same fun b hb => back b ?_))
      rcases hb with hb | hb | hb
      · exact .inl hb
      · rw [putB_owns] at hb; exact .inr (.inl hb)
      · exact .inr (.inr hb)
    | own a x =>
      obtain ⟨na, rfl, oo, o⟩ := hr
      rw [ow] at oo o kp
      have mm : ∀ b, (Md C fl e b ∨ b ∈ [a]) → (((Md C fl e b ∧ b ∉ owns (as.map (rsS e))) ∨ b ∈ owns (as.map (rsS e))) ∨ b = a) := fun b hb => by
        rcases hb with hb | hb
        · exact .inl (back b hb)
        · exact .inr (by simpa using hb)
      have oo' : OwnsOk C.K (fun b => Md C fl e b ∨ b ∈ [a]) H' (owns (as.map (rsS e))) xs := by
        rw [ck]
        exact oo.less mm
      obtain ⟨R2, l2⟩ := st.called (fr := [a]) nd hio kp (fun b hb => by
        obtain rfl : b = a := by simpa using hb
        exact ⟨na, o.mut⟩) (List.nodup_cons.mpr ⟨(fun z => nomatch z), List.nodup_nil⟩) oo'
      refine kk H' R2 l2 (o.later (.same fun b hb => mm b ?_) rfl)
      rcases hb with hb | hb | hb
      · exact .inl (.inl hb)
      · rw [putB_owns] at hb; exact .inl (.inr (.inl hb))
      · rcases List.mem_cons.mp hb with rfl | hb
        · exact .inr List.mem_cons_self
        · exact .inl (.inr (.inr hb))
  · intro Ca dd fs fvs xs H' kp oo hdd rf hed
    have back : ∀ b, Md C fl e b → ((Md C fl e b ∧ b ∉ owns (as.map (rsS e))) ∨ b ∈ owns (as.map (rsS e))) := fun b hb => by
      by_cases z : b ∈ owns (as.map (rsS e))
      · exact .inr z
      · exact .inl ⟨hb, z⟩
    rw [ow] at kp oo rf
    have oo' : OwnsOk C.K (fun b => Md C fl e b ∨ b ∈ ([] : List Addr)) H' (owns (as.map (rsS e))) xs := by
      rw [ck]
      exact oo.less fun b hb => back b (hb.elim id fun z => nomatch z)
    obtain ⟨R2, l2⟩ := st.called (fr := []) nd hio kp (fun _ z => nomatch z) List.nodup_nil oo'
    obtain ⟨R3, l3⟩ := StR.landAll G.ok R2
    refine G.w Ca dd fs fvs σ H' (putB e as xs) R3 hdd ?_ hed
    rw [ck]
    refine rf.later (.same fun b hb => back b ?_)
    rcases hb with hb | hb | hb
    · exact .inl hb
    · rw [putB_owns] at hb; exact .inr (.inl hb)
    · cases hb
section
variable {X : Cx} {k : Nat} {f : Addr} {fd : FuncData} {ps : List Str} {sp : SpD} {dvs : List V} {ds : List Value} {dds : List D} {x : Str} {p pos : Pos} {e : Expr} {es : List Expr} {n : Nat} {ta : MA}
def DfR (K : PySem.W.Frag) (dds : List D) (dvs : List V) : Prop := ∀ M H, Reps K M H dds dvs
theorem DfR.nil {K : PySem.W.Frag} : DfR K [] [] := fun _ _ => rfl
theorem re_call (F : FnD X.prog X.w X.K X.mg X.base k f fd ps sp) (hr : Room k X.A) (hg : Gl X x) (hm : X.mg x = some (.ref f)) (hk : PySem.W.keepIn X.K (.ref f) = true) (hb : Binds X.K fd ps ds) (hd : Vals dvs ds) (hdd : DfR X.K dds dvs) (ha : RA X (e :: es) n ta) (hlen : n + dds.length = ps.length := by rfl)
    (hdb : (x == ("__debug__" : Str)) = false := by decide) (he : starEach (e :: es) X.env = (false, eval e X.env) :: starEach es X.env := by rfl) (hpl : (backTo pos (starEach es X.env)).any (·.1) = false := by rfl) :
    RE X (.Call (.Name x p) (e :: es) [] pos) (mCall sp dds ta) := ⟨fun W tk => (pe_callSD F.ok hr hg hm hk hb hd (fun σ => passAt tk σ) (ha.run W tk) hdb he hpl).of fun σ H R ⟨C, fl, e, Q, WD, G, ht, kk⟩ =>
  ⟨C, fl, e, _, WD, G, ht, fun as e1 vs H1 R1 l1 rs hn ⟨nd, hsp⟩ => ask (G.to R1) (hdd _ _) rs (by rw [hn]; exact hlen) nd hsp fun r xs hq => by
    cases r with
    | un => trivial
    | d x => exact fun v H' R2 l2 rp => kk x _ v H' R2 (l1.trans l2) rp hq
    | own a x =>
      intro H' R2 l2 o
      obtain ⟨R3, l3, na⟩ := R2.land G.ok
      exact kk x _ (.ref a) H' R3 ((l1.trans l2).trans l3) ((o.later l3 rfl).rep na) hq⟩⟩
theorem rf_call (F : FnD X.prog X.w X.K X.mg X.base k f fd ps sp) (hr : Room k X.A) (hg : Gl X x) (hm : X.mg x = some (.ref f)) (hk : PySem.W.keepIn X.K (.ref f) = true) (hb : Binds X.K fd ps ds) (hd : Vals dvs ds) (hdd : DfR X.K dds dvs) (ha : RA X (e :: es) n ta) (hlen : n + dds.length = ps.length := by rfl)
    (hdb : (x == ("__debug__" : Str)) = false := by decide) (he : starEach (e :: es) X.env = (false, eval e X.env) :: starEach es X.env := by rfl) (hpl : (backTo pos (starEach es X.env)).any (·.1) = false := by rfl) :
    RF X (.Call (.Name x p) (e :: es) [] pos) (mCallF sp dds ta) := ⟨fun W tk => (pe_callSD F.ok hr hg hm hk hb hd (fun σ => passAt tk σ) (ha.run W tk) hdb he hpl).of fun σ H R ⟨C, fl, e, Q, WD, G, ht, kk⟩ =>
  ⟨C, fl, e, _, WD, G, ht, fun as e1 vs H1 R1 l1 rs hn ⟨nd, hsp⟩ => ask (G.to R1) (hdd _ _) rs (by rw [hn]; exact hlen) nd hsp fun r xs hq => by
    cases r with
    | un => trivial
    | d x => exact fun v H' R2 l2 rp => hq.elim
    | own a x => exact fun H' R2 l2 o => kk x _ a H' R2 (l1.trans l2) o hq⟩⟩
end
end DL
set_option maxHeartbeats 2000000
namespace DL
open PySem L2
/-! ### attributes -/
theorem RepF.lookup {K : PySem.W.Frag} {M : Addr → Prop} {H : Hp} {f : Str} : ∀ {fs : List (Str × D)} {vs : List (Str × V)}, RepF K M H fs vs → (fs.lookup f = none → vs.lookup f = none) ∧ ∀ d, fs.lookup f = some d → ∃ v, vs.lookup f = some v ∧ Rep K M H d v
  | [], _, h => by
    obtain rfl : _ = [] := h
    exact ⟨fun _ => rfl, fun d q => by cases q⟩
  | (g, d) :: fs, _, ⟨(g', v), r, e, ⟨eg, hv⟩, t⟩ => by
    subst e
    obtain rfl : g' = g := eg
    obtain ⟨h1, h2⟩ := RepF.lookup (f := f) t
    rw [List.lookup_cons, List.lookup_cons]
    cases q : (f == g') with
    | true => exact ⟨(fun z => by cases z), (fun d' z => by cases z; exact ⟨v, rfl, hv⟩)⟩
    | false => exact ⟨h1, h2⟩
theorem RepF.length {K : PySem.W.Frag} {M : Addr → Prop} {H : Hp} : ∀ {fs : List (Str × D)} {vs : List (Str × V)}, RepF K M H fs vs → fs.length = vs.length
  | [], _, h => by obtain rfl : _ = [] := h; rfl
  | _ :: _, _, ⟨v, r, e, _, t⟩ => by subst e; simp [RepF.length t]
def putFD (f : Str) (v : D) : List (Str × D) → List (Str × D)
  | [] => [(f, v)]
  | (g, x) :: r => if g = f then (g, v) :: r else (g, x) :: putFD f v r
theorem RepF.put {K : PySem.W.Frag} {M : Addr → Prop} {H : Hp} {f : Str} {d : D} {v : V} (h : Rep K M H d v) : ∀ {fs : List (Str × D)} {vs : List (Str × V)}, RepF K M H fs vs → RepF K M H (putFD f d fs) (putF f v vs)
  | [], _, e => by
    obtain rfl : _ = [] := e
    exact ⟨(f, v), [], rfl, ⟨rfl, h⟩, rfl⟩
  | (g, x) :: fs, _, ⟨(g', u), r, e, ⟨eg, hu⟩, t⟩ => by
    subst e
    obtain rfl : g' = g := eg
    unfold putFD putF
    by_cases q : g' = f
    · rw [if_pos q, if_pos q]; exact ⟨(g', v), r, rfl, ⟨rfl, h⟩, t⟩
    · rw [if_neg q, if_neg q]; exact ⟨(g', u), _, rfl, ⟨rfl, hu⟩, RepF.put h t⟩
theorem Pk.obj {K : PySem.W.Frag} {C : Cn} {fl : List Addr} {σ : L2.St} {H : Hp} {e : En} {Ca : Addr} {fs : List (Str × D)} {v : V} (h : Pk K C fl e H (.obj Ca fs) v) (R : StR C fl σ H e) (ck : C.K = K) : ∃ a dx vs, v = .ref a ∧ H a = some (.ins Ca dx vs) ∧ RepF K (Md C fl e) H fs vs := by
  rcases h.cases R ck with ⟨a, dx, vs, e1, n, h1, r⟩ | ⟨i, a, _, rfl, dx, vs, h1, r⟩
  · exact ⟨a, dx, vs, e1, h1, r⟩
  · exact ⟨a, dx, vs, rfl, h1, r⟩
def kO (Ca : Addr) (k : List (Str × D) → Prop) : D → Prop
  | .obj C fs => C = Ca ∧ k fs
  | _ => False
theorem kO_of {Ca : Addr} {k : List (Str × D) → Prop} {x : D} (h : kO Ca k x) : ∃ fs, x = .obj Ca fs ∧ k fs := by
  cases x with
  | obj C fs => obtain ⟨rfl, h⟩ := h; exact ⟨fs, rfl, h⟩
  | _ => exact h.elim
section
variable {X : Cx} {pos : Pos} {e : Expr} {es : List Expr} {t ta tb : ME}
def mFld (Ca : Addr) (f : Str) (t : ME) : ME := fun e Q W => t e (fun x e1 => kO Ca (fun fs => ∃ d, fs.lookup f = some d ∧ Q d e1) x) W
theorem re_fld {Ca : Addr} {f : Str} (c : Cls X.K Ca) (n : NoAttr X.K Ca f) (he : RP X e t) (hb : attributeBase e f X.env (eval e X.env) = eval e X.env := by rfl) : RE X (.Attribute e f pos) (mFld Ca f t) :=
  ⟨fun W tk => (pe_fld (he.run W tk) hb).of fun σ H R ⟨C, fl, e, Q, WD, G, ht, k⟩ => ⟨C, fl, e, _, WD, G, ht, fun d e1 v H1 R1 l1 pk q => by
    obtain ⟨fs, rfl, x, hx, hq⟩ := kO_of q
    obtain ⟨a, dx, vs, rfl, ha, rf⟩ := pk.obj R1 G.k
    obtain ⟨w, hw, rw_⟩ := rf.lookup.2 x hx
    exact ⟨a, Ca, dx, vs, w, rfl, ha, c, n, hw, k x e1 w H1 R1 l1 rw_ hq⟩⟩⟩
/-- a field of an owned object is stored -/
def objO (Ca : Addr) : Option Slot → (List (Str × D) → Addr → Prop) → Prop
  | some (.own a (.obj C fs)), k => C = Ca ∧ k fs a
  | _, _ => False
theorem objO_of {Ca : Addr} {o : Option Slot} {k : List (Str × D) → Addr → Prop} (h : objO Ca o k) : ∃ a fs, o = some (.own a (.obj Ca fs)) ∧ k fs a := by
  unfold objO at h
  split at h
  · obtain ⟨rfl, h⟩ := h
    exact ⟨_, _, rfl, h⟩
  · exact h.elim
def mPutF (Ca : Addr) (f : Str) (i : Nat) (t : ME) : MS := fun MD e W => t e (fun x e1 => objO Ca e1[i]? fun fs a => fs.length < 1000 ∧ MD.nx (e1.set i (.own a (.obj Ca (putFD f x fs))))) W
theorem rs_putF {Ca : Addr} {f : Str} {o value : Expr} {i : Nat} {pos' : Pos} (c : Cls X.K Ca) (n : NoAttr X.K Ca f) (ho : PE X o (tVar i)) (hv : RE X value t) (hs : swapsWith value (some (.Attribute o f pos')) pos.line X.env = pure false := by rfl) : RS X (.Assign [.Attribute o f pos'] value pos) (mPutF Ca f i t) :=
  ⟨fun W tk => (ps_fld ho (hv.run W tk) hs).of fun D σ H ⟨C, e, MD, WD, G, ht, nx, r, bk, ct⟩ => ⟨C, [], e, _, WD, G, ht, fun d e1 v H1 R1 l1 rp q => by
    obtain ⟨a, fs, hi, hz, hq⟩ := objO_of q
    obtain ⟨es, dx, vs, ha, rf⟩ := R1.getO hi
    refine ⟨.ref a, es, a, Ca, dx, vs, rfl, ha, c, n, by rw [← rf.length]; exact hz, ?_⟩
    have hm : Md C [] e1 a := .inr (.inl (ownOf hi))
    have rp' : Rep C.K (Md C [] e1) H1 d v := by rw [G.k]; exact rp
    have l2 : Later [] (Md C [] e1) H1 (Md C [] e1) (upd H1 a (.ins Ca dx (putF f v vs))) := later_put hm ⟨_, ha, trivial⟩
    exact nx _ _ _ (R1.put (o := .ins Ca dx (putF f v vs)) (y := .obj Ca (putFD f d fs)) hi trivial ⟨dx, _, upd_same, (rf.put rp').later l2⟩).1 hq⟩⟩
/-! ### o.m(..), C(..) -/
variable {k n : Nat} {f : Addr} {fd : FuncData} {ps : List Str} {sp : SpD} {dvs : List V} {ds : List Value} {dds : List D} {x m : Str} {p apos : Pos} {ua : MA} {Ca : Addr} {o : Expr}
def tMethS (Ca : Addr) (m : Str) (sp : Sp) (dvs : List V) (E : L2.St → XK) (ta : TE) (t : TA) : TE := fun σ H Q => ta σ H fun x H1 => ∃ a dx fs, x = .ref a ∧ H1 a = some (.ins Ca dx fs) ∧ fs.lookup m = none ∧
  t σ H1 fun vs H2 => sp (x :: (vs ++ dvs)) H2 Q (E σ)
theorem pe_methS {CX : CXT} {sp : Sp} {E : L2.St → XK} {ta : TE} {t : TA} {pl : Sem Bool} (he : PE X o ta) (c : Cls X.K Ca) (hm : Meth X.K Ca m f) (F : FnOk X.prog X.w X.K X.mg X.base CX k f fd ps sp) (hr : Room k X.A) (hb : Binds X.K fd ps ds) (hd : Vals dvs ds) (hx : ∀ σ, PassesAt CX X σ (E σ)) (ha : PA X (e :: es) t)
    (hst : starEach (e :: es) X.env = (false, eval e X.env) :: starEach es X.env := by rfl) (hpl : (backTo pos (starEach es X.env)).any (·.1) = false := by rfl)
    (ht : eval (.Call (.Attribute o m apos) (e :: es) [] pos) X.env = (do
      let ov ← eval o X.env
      standAt apos.atName
      let (f, first) ← holding [ov] (getMethod ov m pl)
      callWith pos f first (backTo pos (starEach (e :: es) X.env)) (backToKw pos (keywordEach [] X.env))) := by rfl) :
    PE X (.Call (.Attribute o m apos) (e :: es) [] pos) (tMethS Ca m sp dvs E ta t) := by
  refine ⟨fun pins s σ H Q I h => ?_⟩
  refine PySem.W.methodCall_KW (pl := pl) (thn (he.run pins s σ H _ I h) fun u s1 ⟨x, H1, I1, rx, a, dx, fs, ex, ea, l, q⟩ => ?_) ht
  subst ex
  obtain rfl : u = Value.ref a := rx
  refine getmeth_ok I1 ea c hm l ?_
  refine PySem.W.callWith_K (first := [.ref a]) (h₀ := X.base) I.ok.mod.kin hm.kp (thn (ha.run pos pins s1 σ H1 _ I1 q) fun us s2 ⟨vs, H2, I2, r, q2⟩ => ⟨I2.kIn, ?_⟩) hst hpl
  exact run_fnSD (us := .ref a :: us) (vs := .ref a :: vs) F hr hb hd (hx σ) I2 (.cons rfl r) q2
/-- the object is data: it stays as it is -/
def mMeth (Ca : Addr) (m : Str) (sp : SpD) (dds : List D) (t : ME) (ua : MA) : ME := fun e Q W => t e (fun x e1 => kO Ca (fun fs => fs.lookup m = none ∧ ua e1 (fun as e2 => nodupN (ioIx as) = true ∧ sp (.d x :: (as.map (rsS e2) ++ dds.map .d)) (rtD Q e2 as) (fun Ce fs xs => W Ce fs (putB e2 as xs))) W) x) W
theorem re_meth {pl : Sem Bool} (he : RE X o t) (c : Cls X.K Ca) (hm : Meth X.K Ca m f) (F : FnD X.prog X.w X.K X.mg X.base k f fd ps sp) (hr : Room k X.A) (hb : Binds X.K fd ps ds) (hd : Vals dvs ds) (hdd : DfR X.K dds dvs) (ha : RA X (e :: es) n ua) (hlen : n + dds.length + 1 = ps.length := by rfl)
    (hst : starEach (e :: es) X.env = (false, eval e X.env) :: starEach es X.env := by rfl) (hpl : (backTo pos (starEach es X.env)).any (·.1) = false := by rfl)
    (ht : eval (.Call (.Attribute o m apos) (e :: es) [] pos) X.env = (do
      let ov ← eval o X.env
      standAt apos.atName
      let (f, first) ← holding [ov] (getMethod ov m pl)
      callWith pos f first (backTo pos (starEach (e :: es) X.env)) (backToKw pos (keywordEach [] X.env))) := by rfl) :
    RE X (.Call (.Attribute o m apos) (e :: es) [] pos) (mMeth Ca m sp dds t ua) :=
  ⟨fun W tk => (pe_methS (he.run W tk) c hm F.ok hr hb hd (fun σ => passAt tk σ) (ha.run W tk) hst hpl ht).of fun σ H R ⟨C, fl, e, Q, WD, G, hh, kk⟩ => ⟨C, fl, e, _, WD, G, hh, fun d e1 v H1 R1 l1 rp q => by
    obtain ⟨fs, rfl, hl, hq⟩ := kO_of q
    obtain ⟨a, dx, vs, rfl, na, hv, rf⟩ := id rp
    refine ⟨a, dx, vs, rfl, hv, rf.lookup.1 hl, C, fl, e1, _, WD, G.to R1, hq, fun as e2 ws H2 R2 l2 rs hn hsp => ?_⟩
    obtain ⟨nd, hsp⟩ := hsp
    have rs' : ArgsR X.K (Md C fl e2) H2 e2 (.d (.obj Ca fs) :: as) (.ref a :: ws) := .cons (show Rep X.K (Md C fl e2) H2 (.obj Ca fs) (.ref a) from Rep.later l2 rp) rs
    exact ask (as := .d (.obj Ca fs) :: as) (vs := .ref a :: ws) (G.to R2) (hdd _ _) rs' (by rw [List.length_cons, hn, ← hlen]; omega) nd hsp fun r xs hq => by
      cases r with
      | un => trivial
      | d x => exact fun v H' R3 l3 rp3 => kk x _ v H' R3 ((l1.trans l2).trans l3) rp3 hq
      | own b x =>
        intro H' R3 l3 o3
        obtain ⟨R4, l4, nb⟩ := R3.land G.ok
        exact kk x _ (.ref b) H' R4 (((l1.trans l2).trans l3).trans l4) ((o3.later l4 rfl).rep nb) hq⟩⟩
/-! ### C(..) : a new object, __init__ run on it -/
theorem owns_push {e : En} {a : Addr} {d : D} : owns (e ++ [.own a d]) = owns e ++ [a] := by rw [owns_append]; rfl
theorem StR.push {C : Cn} {fl : List Addr} {σ : L2.St} {H : Hp} {e : En} {a : Addr} {d : D} (R : StR C (a :: fl) σ H e) (o : Own C.K (Md C (a :: fl) e) H d a) : StR C fl (σ ++ [some (.ref a)]) H (e ++ [.own a d]) := by
  have less : ∀ b, Md C fl (e ++ [.own a d]) b → Md C (a :: fl) e b := fun b h => by
    rcases h with h | h | h
    · exact .inl h
    · rw [owns_push] at h
      rcases List.mem_append.mp h with h | h
      · exact .inr (.inl h)
      · exact .inr (.inr (by rw [List.mem_singleton.mp h]; exact List.mem_cons_self))
    · exact .inr (.inr (List.mem_cons_of_mem _ h))
  refine ⟨by rw [List.length_append, List.length_append, R.len]; rfl, fun i s hi => ?_, ?_, fun b h => R.al b (less b h), fun b h => ?_, R.keep, R.iot⟩
  · by_cases hlt : i < e.length
    · rw [List.getElem?_append_left hlt] at hi
      rw [List.getElem?_append_left (by rw [← R.len]; exact hlt)]
      exact (R.sl i s hi).later (.same less) fun _ _ _ => rfl
    · rw [List.getElem?_append_right (by omega)] at hi
      rw [List.getElem?_append_right (by rw [← R.len]; omega)]
      have h0 : i - e.length = 0 := by
        have := (List.getElem?_eq_some_iff.mp hi).1
        simp at this
        exact this
      rw [h0] at hi
      obtain rfl := Option.some.inj hi
      rw [← R.len, h0]
      exact ⟨rfl, o.later (.same less) rfl⟩
  · rw [owns_push, List.append_assoc]
    exact R.nd
  · rcases h with h | h
    · rw [owns_push] at h
      rcases List.mem_append.mp h with h | h
      · exact R.new b (.inl h)
      · exact R.new b (.inr (by rw [List.mem_singleton.mp h]; exact List.mem_cons_self))
    · exact R.new b (.inr (List.mem_cons_of_mem _ h))
theorem StR.pop {C : Cn} {fl : List Addr} {σ : L2.St} {H : Hp} {e : En} {a : Addr} {d : D} {v : Option V} (R : StR C fl (σ ++ [v]) H (e ++ [.own a d])) : StR C (a :: fl) σ H e ∧ Own C.K (Md C (a :: fl) e) H d a ∧ ∀ b, Md C (a :: fl) e b ↔ Md C fl (e ++ [.own a d]) b := by
  have same : ∀ b, Md C (a :: fl) e b ↔ Md C fl (e ++ [.own a d]) b := fun b => by
    unfold Md
    rw [owns_push, List.mem_append, List.mem_cons, List.mem_singleton]
    constructor
    · rintro (h | h | h | h)
      · exact .inl h
      · exact .inr (.inl (.inl h))
      · exact .inr (.inl (.inr h))
      · exact .inr (.inr h)
    · rintro (h | (h | h) | h)
      · exact .inl h
      · exact .inr (.inl h)
      · exact .inr (.inr (.inl h))
      · exact .inr (.inr (.inr h))
  have less : ∀ b, Md C (a :: fl) e b → Md C fl (e ++ [.own a d]) b := fun b => (same b).mp
  have hl : e.length = σ.length := by
    have := R.len
    rw [List.length_append, List.length_append] at this
    exact Nat.add_right_cancel this
  refine ⟨⟨hl, fun i s hi => ?_, ?_, fun b h => R.al b (less b h), fun b h => ?_, R.keep, R.iot⟩, ?_, same⟩
  · have hlt : i < e.length := (List.getElem?_eq_some_iff.mp hi).1
    have := R.sl i s (by rw [List.getElem?_append_left hlt]; exact hi)
    rw [List.getElem?_append_left (by rw [← hl]; exact hlt)] at this
    exact this.later (.same less) fun _ _ _ => rfl
  · have := R.nd
    rw [owns_push, List.append_assoc] at this
    exact this
  · rcases h with h | h
    · exact R.new b (.inl (by rw [owns_push]; exact List.mem_append_left _ h))
    · rcases List.mem_cons.mp h with rfl | h
      · exact R.new b (.inl (by rw [owns_push]; exact List.mem_append_right _ (List.mem_singleton.mpr rfl)))
      · exact R.new b (.inr h)
  · have := (R.getO (i := e.length) (a := a) (x := d) (by rw [List.getElem?_append_right (Nat.le_refl _), Nat.sub_self]; rfl)).2
    exact this.later (.same less) rfl
theorem putB_d : ∀ {as : List Arg} {xs : List D} {e : En}, ioIx as = [] → putB e as xs = e
  | [], _, _, _ => rfl
  | .d _ :: as, xs, e, h => putB_d (as := as) h
  | .io _ :: _, _, _, h => by cases h
theorem rs_push {e : En} {s : Slot} : ∀ {as : List Arg}, ioIx as = [] → as.map (rsS (e ++ [s])) = as.map (rsS e)
  | [], _ => rfl
  | .d x :: as, h => by
    rw [List.map_cons, List.map_cons, rs_push (as := as) h]
    rfl
  | .io _ :: _, h => by cases h
theorem ArgsR.noio {K : PySem.W.Frag} {M : Addr → Prop} {H : Hp} {e e' : En} : ∀ {as : List Arg} {vs : List V}, ioIx as = [] → ArgsR K M H e as vs → ArgsR K M H e' as vs
  | _, _, _, .nil => .nil
  | .d x :: _, _, h, .cons r t => .cons r (ArgsR.noio h t)
  | .io _ :: _, _, h, .cons r t => by cases h
def mMake (Ca : Addr) (sp : SpD) (dds : List D) (ua : MA) : ME := fun e Q W => ua e (fun as e1 => ioIx as = [] ∧ ∀ a, a ∉ owns e1 → sp (.own a (.obj Ca []) :: (as.map (rsS e1) ++ dds.map .d)) (fun r xs => match r, xs with
  | .d .non, [y] => Q y e1
  | _, _ => False) (fun _ _ _ => False)) W
theorem rf_make {fI : Addr} (M : Mk X.K Ca fI) (F : FnD X.prog X.w X.K X.mg X.base k fI fd ps sp) (hr : Room (k + 1) X.A) (hg : Gl X x) (hm : X.mg x = some (.ref Ca)) (hb : Binds X.K fd ps ds) (hd : Vals dvs ds) (hdd : DfR X.K dds dvs) (ha : RA X (e :: es) n ua) (hlen : n + dds.length + 1 = ps.length := by rfl)
    (hdb : (x == ("__debug__" : Str)) = false := by decide) (he : starEach (e :: es) X.env = (false, eval e X.env) :: starEach es X.env := by rfl) (hpl : (backTo pos (starEach es X.env)).any (·.1) = false := by rfl) :
    RF X (.Call (.Name x p) (e :: es) [] pos) (mMake Ca sp dds ua) :=
  ⟨fun W tk => (pe_make M F.ok hr hg hm hb hd passL (ha.run W tk) hdb he hpl).of fun σ H R ⟨C, fl, e, Q, WD, G, hh, kk⟩ => ⟨C, fl, e, _, WD, G, hh, fun as e1 vs H1 R1 l1 rs hn ⟨nio, hsp⟩ => by
    intro x dx hx hdx hne
    have R2 := R1.heap (upd_keep (o := .own x) hdx)
    have hx2 : upd H1 dx (.own x) x = none := by rw [upd_ne (Ne.symm hne)]; exact hx
    obtain ⟨R3, l3⟩ := R2.1.float G.ok (o := .ins Ca dx []) hx2 trivial
    have ox : Own C.K (Md C (x :: fl) e1) (upd (upd H1 dx (.own x)) x (.ins Ca dx [])) (.obj Ca []) x := ⟨dx, [], upd_same, rfl⟩
    have R4 := R3.push ox
    have nx : x ∉ owns e1 := fun z => by
      obtain ⟨o, ho, _⟩ := R1.al x (.inr (.inl z))
      rw [hx] at ho; cases ho
    have l13 : Later fl (Md C fl e1) H1 (Md C fl (e1 ++ [.own x (.obj Ca [])])) (upd (upd H1 dx (.own x)) x (.ins Ca dx [])) := (R2.2.trans l3).less fun b hb => by
      rcases hb with hb | hb | hb
      · exact .inl hb
      · rw [owns_push] at hb
        rcases List.mem_append.mp hb with hb | hb
        · exact .inr (.inl hb)
        · exact .inr (.inr (by rw [List.mem_singleton.mp hb]; exact List.mem_cons_self))
      · exact .inr (.inr (List.mem_cons_of_mem _ hb))
    have G4 : Gd X.K (fun _ _ _ _ => False) C fl (σ ++ [some (.ref x)]) (upd (upd H1 dx (.own x)) x (.ins Ca dx [])) (e1 ++ [.own x (.obj Ca [])]) (fun _ _ _ => False) := ⟨G.k, G.ok, R4, fun _ _ _ _ _ _ _ _ _ _ z => z⟩
    have hxi : (e1 ++ [Slot.own x (.obj Ca [])])[e1.length]? = some (.own x (.obj Ca [])) := by rw [List.getElem?_append_right (Nat.le_refl _), Nat.sub_self]; rfl
    have rs' : ArgsR X.K (Md C fl (e1 ++ [.own x (.obj Ca [])])) (upd (upd H1 dx (.own x)) x (.ins Ca dx [])) (e1 ++ [.own x (.obj Ca [])]) (.io e1.length :: as) (.ref x :: vs) := .cons ⟨x, _, hxi, rfl⟩ ((rs.later l13).noio nio)
    have nd : nodupN (ioIx (.io e1.length :: as)) = true := by
      show (!(ioIx as).contains e1.length && nodupN (ioIx as)) = true
      rw [nio]; rfl
    have hsp' := hsp x nx
    refine ask (as := .io e1.length :: as) (vs := .ref x :: vs) (W := fun _ _ _ _ => False) (WD := fun _ _ _ => False) G4 (hdd _ _) rs' (by rw [List.length_cons, hn, ← hlen]; omega) nd (Q := fun r xs => match r, xs with | .d .non, [y] => Q y e1 | _, _ => False) ?_ fun r xs hq => ?_
    · rw [List.map_cons, rs_push nio]
      have e5 : rsS (e1 ++ [.own x (.obj Ca [])]) (.io e1.length) = .own x (.obj Ca []) := by
        show ((e1 ++ [Slot.own x (.obj Ca [])])[e1.length]?).getD .un = _
        rw [hxi]; rfl
      rw [e5]
      exact hsp'
    · cases r with
      | un => exact hq.elim
      | own _ _ => exact hq.elim
      | d z =>
        cases z with
        | non =>
          cases xs with
          | nil => exact hq.elim
          | cons y ys =>
            cases ys with
            | cons _ _ => exact hq.elim
            | nil =>
              intro v H' R5 l5 rp
              obtain rfl : v = .non := rp
              refine ⟨rfl, ?_⟩
              have eB : putB (e1 ++ [.own x (.obj Ca [])]) (.io e1.length :: as) [y] = e1 ++ [.own x y] := by
                unfold putB
                rw [hxi]
                simp only
                rw [putB_d nio, List.set_append_right _ _ (Nat.le_refl _), Nat.sub_self]
                rfl
              rw [eB] at R5 l5
              obtain ⟨R6, o6, sm⟩ := R5.pop
              exact kk y e1 x H' R6 (l1.trans ((l13.trans l5).less fun b hb => (sm b).mp hb)) (by rw [← G.k]; exact o6) hq
        | _ => exact hq.elim⟩⟩
end
end DL
set_option maxHeartbeats 2000000
namespace DL
open PySem L2
/-! ### comprehensions -/
def wipeE (e : En) : List Nat → En
  | [] => e
  | v :: vs => (wipeE e vs).set v .un
def rstE (e0 e : En) : List Nat → En
  | [] => e
  | v :: vs => (rstE e0 e vs).set v ((e0[v]?).getD .un)
def noOwn (e : En) : List Nat → Bool
  | [] => true
  | v :: vs => (match e[v]? with | some (.own _ _) => false | _ => true) && noOwn e vs
theorem noOwn_at {e : En} : ∀ {vs : List Nat}, noOwn e vs = true → ∀ v ∈ vs, ownA ((e[v]?).getD .un) = none
  | [], _, v, h => by cases h
  | u :: vs, h, v, hv => by
    have h' := Bool.and_eq_true_iff.mp h
    rcases List.mem_cons.mp hv with rfl | hv
    · have h1 := h'.1
      cases q : e[v]? with
      | none => rfl
      | some s =>
        rw [q] at h1
        cases s with
        | own a x => cases h1
        | un => rfl
        | d x => rfl
    · exact noOwn_at h'.2 v hv
theorem StR.wipe {C : Cn} {fl : List Addr} {σ : L2.St} {H : Hp} {e : En} (R : StR C fl σ H e) : ∀ vs : List Nat, StR C fl (wipe σ vs) H (wipeE e vs)
  | [] => R
  | v :: vs => (StR.wipe R vs).setU v none
theorem owns_wipe {e : En} : ∀ vs : List Nat, (owns (wipeE e vs)).Sublist (owns e)
  | [] => .refl _
  | v :: vs => (owns_set_sub rfl).trans (owns_wipe vs)
theorem wipeE_out {e : En} {i : Nat} : ∀ {vs : List Nat}, i ∉ vs → (wipeE e vs)[i]? = e[i]?
  | [], _ => rfl
  | v :: vs, h => by
    have h' : i ≠ v ∧ i ∉ vs := by simpa using h
    unfold wipeE
    rw [List.getElem?_set_ne (Ne.symm h'.1)]
    exact wipeE_out h'.2
theorem wipeE_len {e : En} : ∀ {vs : List Nat}, (wipeE e vs).length = e.length
  | [] => rfl
  | v :: vs => by unfold wipeE; rw [List.length_set]; exact wipeE_len
theorem rstE_len {e0 e : En} : ∀ {vs : List Nat}, (rstE e0 e vs).length = e.length
  | [] => rfl
  | v :: vs => by unfold rstE; rw [List.length_set]; exact rstE_len
theorem rstE_out {e0 e : En} {i : Nat} : ∀ {vs : List Nat}, i ∉ vs → (rstE e0 e vs)[i]? = e[i]?
  | [], _ => rfl
  | v :: vs, h => by
    have h' : i ≠ v ∧ i ∉ vs := by simpa using h
    unfold rstE
    rw [List.getElem?_set_ne (Ne.symm h'.1)]
    exact rstE_out h'.2
theorem rstE_in {e0 e : En} {i : Nat} (hl : e0.length = e.length) : ∀ {vs : List Nat}, i ∈ vs → (rstE e0 e vs)[i]? = e0[i]?
  | [], h => by cases h
  | v :: vs, h => by
    unfold rstE
    by_cases q : i = v
    · subst q
      by_cases hlt : i < e0.length
      · rw [List.getElem?_set_self (by rw [rstE_len, ← hl]; exact hlt), List.getElem?_eq_getElem hlt]
        rfl
      · rw [List.getElem?_eq_none (l := e0) (by omega), List.getElem?_eq_none (l := List.set _ _ _) (by rw [List.length_set, rstE_len, ← hl]; omega)]
    · rw [List.getElem?_set_ne (Ne.symm q)]
      rcases List.mem_cons.mp h with h | h
      · exact absurd h q
      · exact rstE_in hl h
theorem owns_rst {e0 e : En} : ∀ {vs : List Nat}, (∀ v ∈ vs, ownA ((e0[v]?).getD .un) = none) → (owns (rstE e0 e vs)).Sublist (owns e)
  | [], _ => .refl _
  | v :: vs, h => (owns_set_sub (h v List.mem_cons_self)).trans (owns_rst fun u hu => h u (List.mem_cons_of_mem _ hu))
/-- back from a comprehension's block -/
theorem StR.back {C : Cn} {fl : List Addr} {σ σ2 : L2.St} {H H2 : Hp} {e e2 : En} {vs : List Nat} (R : StR C fl σ H e) (R2 : StR C fl σ2 H2 e2) (hw : L2.wipe σ2 vs = L2.wipe σ vs) (no : noOwn e vs = true) (l : Later fl (Md C fl e) H (Md C fl e2) H2) :
    StR C fl σ H2 (rstE e e2 vs) ∧ Later fl (Md C fl e) H (Md C fl (rstE e e2 vs)) H2 ∧ Later fl (Md C fl e2) H2 (Md C fl (rstE e e2 vs)) H2 := by
  have hno := noOwn_at no
  have sub := owns_rst (e0 := e) (e := e2) hno
  have less : ∀ b, Md C fl (rstE e e2 vs) b → Md C fl e2 b := Md.less fun a h => sublist_mem sub h
  have hls : σ2.length = σ.length := by
    have := congrArg List.length hw
    rw [L2.wipe_length, L2.wipe_length] at this
    exact this
  have hl : e.length = e2.length := by rw [R.len, R2.len, hls]
  refine ⟨⟨by rw [rstE_len, ← hl]; exact R.len, fun i s hi => ?_, (sub.append (List.Sublist.refl fl)).nodup R2.nd, fun a h => R2.al a (less a h), fun a h => ?_, R2.keep, R2.iot⟩, l.less less, .sameF less⟩
  · by_cases q : i ∈ vs
    · rw [rstE_in hl q] at hi
      have h1 := R.sl i s hi
      refine h1.later (l.less less) fun a x z => ?_
      subst z
      have := hno i q
      rw [hi] at this
      simp [ownA] at this
    · rw [rstE_out q] at hi
      have h1 := R2.sl i s hi
      have e1 : σ2[i]? = σ[i]? := by
        have a1 := L2.wipe_out (σ := σ2) q
        have a2 := L2.wipe_out (σ := σ) q
        rw [← a1, ← a2, hw]
      rw [e1] at h1
      exact h1.later (.same less) fun _ _ _ => rfl
  · rcases h with h | h
    · exact R2.new a (.inl (sublist_mem sub h))
    · exact R2.new a (.inr h)
/-- a floating object is changed -/
theorem StR.putFl {C : Cn} {fl : List Addr} {σ : L2.St} {H : Hp} {e : En} {a : Addr} {o u : HO} (R : StR C (a :: fl) σ H e) (h : H a = some u) (m : MutO o) : StR C (a :: fl) σ (upd H a o) e := by
  have hm : Md C (a :: fl) e a := .inr (.inr List.mem_cons_self)
  obtain ⟨oa, hoa, ma⟩ := R.al a hm
  have lp : Later [] (Md C (a :: fl) e) H (Md C (a :: fl) e) (upd H a o) := later_put hm ⟨oa, hoa, ma⟩
  have na : a ∉ owns e := fun z => (List.nodup_append.mp R.nd).2.2 a z a List.mem_cons_self rfl
  refine ⟨R.len, fun i s hi => (R.sl i s hi).later lp fun b x z => ?_, R.nd, fun b hb => ?_, R.new, fun b w hb n => ?_, fun b hb => ?_⟩
  · subst z
    exact upd_ne fun z => na (z ▸ ownOf hi)
  · by_cases z : b = a
    · subst z
      exact ⟨o, upd_same, m⟩
    · rw [upd_ne z]
      exact R.al b hb
  · rw [upd_ne fun z => ?_]
    · exact R.keep b w hb n
    · subst z
      rcases R.new b (.inr List.mem_cons_self) with q | q
      · exact n q
      · rw [hb] at q; cases q
  · by_cases z : b = a
    · subst z
      exact ⟨o, upd_same⟩
    · rw [upd_ne z]
      exact R.iot b hb
structure RTs (X : Cx) (ifs : List Expr) (t : MT) : Prop where
  run : ∀ W, Takes X W → PTs X ifs (cT X.K W t)
theorem _root_.L2.PTs.of {X : Cx} {e : List Expr} {t u : TT} (h : PTs X e t) (i : ∀ σ H Q, u σ H Q → t σ H Q) : PTs X e u := ⟨fun pins s σ H Q I w => h.run pins s σ H Q I (i _ _ _ w)⟩
def mYes : MT := fun e Q _ => Q true e
theorem rts_nil {X : Cx} : RTs X [] mYes := ⟨fun W tk => pts_nil.of fun σ H R ⟨C, fl, e, Q, WD, G, ht, k⟩ => k true e H G.st .refl ht⟩
theorem rts_one {X : Cx} {c : Expr} {t : MT} (h : RT X c t) : RTs X [c] t := ⟨fun W tk => pts_one (h.run W tk)⟩
def W0 : WE := fun _ _ _ => False
def lcD (g : MG) (tt : MT) (te : ME) (vs : List Nat) (Q : KE) : List D → List D → En → Prop
  | [], acc, e => Q (.lst acc) e
  | d :: ds, acc, e => noOwn e vs = true ∧ g d (wipeE e vs) fun e2 => tt e2 (fun b e3 => if b = true then te e3 (fun y e4 => acc.length < sizeLine ∧ lcD g tt te vs Q ds (acc ++ [y]) (rstE e e4 vs)) W0 else lcD g tt te vs Q ds acc (rstE e e3 vs)) W0
def mLc (ti : MI) (g : MG) (tt : MT) (te : ME) (vs : List Nat) : ME := fun e Q W => ti e (fun ds e1 => lcD g tt te vs Q ds [] e1) W
/-- a target within a block keeps the other names: its reading leaves the slots but those -/
def GOk (g : MG) (gt : TG) (vs : List Nat) : Prop := ∀ (K : PySem.W.Frag) (C : Cn) (fl : List Addr) (σ : L2.St) (H : Hp) (e : En) (d : D) (v : V) (Q : En → Prop) (R : L2.St → Hp → Prop), C.K = K → StR C fl σ H e → Rep K (Md C fl e) H d v → g d e Q →
  (∀ e' σ', StR C fl σ' H e' → Later fl (Md C fl e) H (Md C fl e') H → L2.wipe σ' vs = L2.wipe σ vs → Q e' → R σ' H) → gt v σ H R
theorem gok_n {i : Nat} {vs : List Nat} (h : i ∈ vs) : GOk (mgN i) (gName i) vs := fun K C fl σ H e d v Q R ck st rp hg k => by
  refine k _ _ (st.setD (by rw [ck]; exact rp)) (.sameF less_setD) ?_ hg
  clear hg k rp st ck
  induction vs with
  | nil => cases h
  | cons u vs ih =>
    by_cases q : i ∈ vs
    · show (L2.wipe (σ.set i (some v)) vs).set u none = (L2.wipe σ vs).set u none
      rw [ih q]
    · have e1 : i = u := by
        rcases List.mem_cons.mp h with h | h
        · exact h
        · exact absurd h q
      subst e1
      have w : ∀ (ws : List Nat), i ∉ ws → L2.wipe (σ.set i (some v)) ws = (L2.wipe σ ws).set i (some v) := fun ws => by
        induction ws with
        | nil => intro _; rfl
        | cons z ws ih2 =>
          intro hz
          have hz' : i ≠ z ∧ i ∉ ws := by simpa using hz
          show (L2.wipe (σ.set i (some v)) ws).set z none = ((L2.wipe σ ws).set z none).set i (some v)
          rw [ih2 hz'.2, List.set_comm _ _ hz'.1]
      show (L2.wipe (σ.set i (some v)) vs).set i none = (L2.wipe σ vs).set i none
      rw [w vs q, List.set_set]
theorem wipe_in {σ : L2.St} {i : Nat} : ∀ {vs : List Nat}, i ∈ vs → (L2.wipe σ vs)[i]? = if i < σ.length then some none else none
  | [], h => by cases h
  | v :: vs, h => by
    unfold L2.wipe
    by_cases q : i = v
    · subst q
      by_cases hlt : i < σ.length
      · rw [List.getElem?_set_self (by rw [L2.wipe_length]; exact hlt), if_pos hlt]
      · rw [if_neg hlt, List.getElem?_eq_none (by rw [List.length_set, L2.wipe_length]; omega)]
    · rw [List.getElem?_set_ne (Ne.symm q)]
      rcases List.mem_cons.mp h with h | h
      · exact absurd h q
      · exact wipe_in h
theorem wipe_wipe (σ : L2.St) (vs : List Nat) : L2.wipe (L2.wipe σ vs) vs = L2.wipe σ vs := by
  refine List.ext_getElem? fun i => ?_
  by_cases h : i ∈ vs
  · rw [wipe_in h, wipe_in h, L2.wipe_length]
  · rw [L2.wipe_out h]
section
variable {X : Cx} {pos : Pos}
theorem lc_ok {K : PySem.W.Frag} {W : WX} {ti : MI} {g : MG} {gt : TG} {tt : MT} {te : ME} {vs0 : List Nat} (gk : GOk g gt vs0) {σ : L2.St} {H : Hp} {R : VK} (h : cF K W (mLc ti g tt te vs0) σ H R) :
    tLc (cI K W ti) gt (cT K (fun _ _ _ _ => False) tt) (cE K (fun _ _ _ _ => False) te) vs0 σ H R := by
  obtain ⟨C, fl, e, Q, WD, G, hh, kk⟩ := h
  exact ⟨C, fl, e, _, WD, G, hh, fun ds e1 H1 J R1 l1 it q => by
    intro Dl hD
    obtain ⟨R2, l2⟩ := R1.float G.ok (o := .lst []) hD trivial
    refine ⟨fun i m H3 => i ≤ ds.length ∧ m = ds.length - i ∧ ∃ e3 acc vs, StR C (Dl :: fl) σ H3 e3 ∧ Later fl (Md C fl e1) H1 (Md C (Dl :: fl) e3) H3 ∧ H3 Dl = some (.lst vs) ∧ Reps K (Md C (Dl :: fl) e3) H3 acc vs ∧ lcD g tt te vs0 Q (ds.drop i) acc e3,
      ⟨ds.length, Nat.zero_le _, rfl, e1, [], [], R2, l2, upd_same, rfl, q⟩, ?_⟩
    rintro i m H3 ⟨hi, rfl, e3, acc, vs, R3, l3, hD3, rs, hl⟩
    by_cases hlt : i < ds.length
    · right
      have hd : ds[i]? = some ds[i] := List.getElem?_eq_getElem hlt
      obtain ⟨hgo, hy⟩ := it.go _ _ l3.nil i _ hd
      refine ⟨hgo, fun H4 => ∃ e4 acc vs, StR C (Dl :: fl) σ H4 e4 ∧ Later fl (Md C fl e1) H1 (Md C (Dl :: fl) e4) H4 ∧ H4 Dl = some (.lst vs) ∧ Reps K (Md C (Dl :: fl) e4) H4 acc vs ∧ lcD g tt te vs0 Q (ds.drop (i + 1)) acc e4,
        fun H4 ⟨e4, acc, vs, h4⟩ => ⟨ds.length - (i + 1), by omega, by omega, rfl, e4, acc, vs, h4⟩, fun x H4 y => ?_⟩
      obtain ⟨gr, rp⟩ := hy x H4 y
      obtain ⟨R4, l4⟩ := R3.heap gr
      rw [List.drop_eq_getElem_cons hlt] at hl
      obtain ⟨no, hl⟩ := hl
      have R5 := R4.wipe vs0
      have less5 : ∀ b, Md C (Dl :: fl) (wipeE e3 vs0) b → Md C (Dl :: fl) e3 b := Md.less fun a h => sublist_mem (owns_wipe _) h
      refine gk K C (Dl :: fl) _ H4 _ _ x _ _ G.k R5 (rp.later (.same less5)) hl fun e6 σ6 R6 l6 hw q6 => ?_
      have hw6 : L2.wipe σ6 vs0 = L2.wipe σ vs0 := hw.trans (wipe_wipe σ _)
      refine ⟨hw6, ?_⟩
      have G6 : Gd K (fun _ _ _ _ => False) C (Dl :: fl) σ6 H4 e6 W0 := ⟨G.k, G.ok, R6, fun _ _ _ _ _ _ _ _ _ _ z => z⟩
      have l46 : Later (Dl :: fl) (Md C (Dl :: fl) e3) H4 (Md C (Dl :: fl) e6) H4 := (Later.sameF less5).trans l6
      have fix4 : H4 Dl = some (.lst vs) := gr _ _ hD3
      refine ⟨C, Dl :: fl, e6, _, W0, G6, q6, fun b e7 H7 R7 l7 q7 => ?_⟩
      have l37 : Later (Dl :: fl) (Md C (Dl :: fl) e3) H4 (Md C (Dl :: fl) e7) H7 := l46.trans l7
      have l17 : Later fl (Md C fl e1) H1 (Md C (Dl :: fl) e7) H7 := (l3.trans (l4.sub fun a h => List.mem_cons_of_mem _ h)).trans (l37.sub fun a h => List.mem_cons_of_mem _ h)
      have fix7 : H7 Dl = some (.lst vs) := (l37.fix Dl List.mem_cons_self).trans fix4
      have rs7 : Reps K (Md C (Dl :: fl) e7) H7 acc vs := (rs.later l4).later l37
      cases b with
      | true =>
        rw [if_pos rfl] at q7
        show cE K _ te σ6 H7 _
        refine ⟨C, Dl :: fl, e7, _, W0, G6.to R7, q7, fun d e8 v H8 R8 l8 rp8 q8 => ?_⟩
        obtain ⟨hz, q8⟩ := q8
        have l38 := l37.trans l8
        have fix8 : H8 Dl = some (.lst vs) := (l8.fix Dl List.mem_cons_self).trans fix7
        obtain ⟨R9, l9, l89⟩ := R4.back R8 hw6 no l38
        have rs9 : Reps K (Md C (Dl :: fl) (rstE e3 e8 vs0)) H8 acc vs := (rs7.later l8).later l89
        have hm : Md C (Dl :: fl) (rstE e3 e8 vs0) Dl := .inr (.inr List.mem_cons_self)
        have lp := later_put (o := .lst (vs ++ [v])) hm ⟨_, fix8, trivial⟩
        refine ⟨vs, fix8, by rw [← rs.length]; exact hz, _, acc ++ [d], vs ++ [v], ?_, ?_, upd_same, (rs9.append (.cons (rp8.later l89) .nil)).later lp, q8⟩
        · exact R9.putFl fix8 trivial
        · have l19 := (l3.trans (l4.sub fun a h => List.mem_cons_of_mem _ h)).trans (l9.sub fun a h => List.mem_cons_of_mem _ h)
          refine ⟨l19.own, fun b u hb n => ?_, fun b hb => ?_⟩
          · have h8 := l19.keep b u hb n
            rw [upd_ne fun z => ?_]
            · exact h8
            · subst z
              rw [hD] at hb; cases hb
          · have nb : b ≠ Dl := fun z => by
              subst z
              exact (List.nodup_cons.mp (List.nodup_append.mp R9.nd).2.1).1 hb
            rw [upd_ne nb]
            exact l19.fix b hb
      | false =>
        rw [if_neg (by decide)] at q7
        obtain ⟨R9, l9, l79⟩ := R4.back R7 hw6 no l37
        refine ⟨_, acc, vs, R9, ?_, fix7, rs7.later l79, q7⟩
        exact (l3.trans (l4.sub fun a h => List.mem_cons_of_mem _ h)).trans (l9.sub fun a h => List.mem_cons_of_mem _ h)
    · left
      have ei : i = ds.length := by omega
      subst ei
      rw [List.drop_length] at hl
      refine ⟨it.stop _ _ l3.nil, ?_⟩
      exact kk (.lst acc) e3 Dl H3 R3 (l1.trans l3) ⟨vs, hD3, rs⟩ hl⟩
theorem rf_lc {elt tg iter : Expr} {ifs : List Expr} {scope : Scope} {own : List (Str × Nat)} {ti : MI} {g : MG} {gt : TG} {tt : MT} {te : ME} (hc : X.calm = true) (hN : X.N.Nodup) (hi : RI X tg iter ti) (ok : BlkOk X.N X.env.scope scope own)
    (hg : ∀ (s : Shared) (H : Hp) (C : Addr) (cl : List (Str × Addr)) (fp : List Addr), PG (X.blk s H scope (compEnvC scope cl C X.env) fp) tg gt) (gk : GOk g gt (own.map (·.2)))
    (ht : ∀ (s : Shared) (H : Hp) (C : Addr) (cl : List (Str × Addr)) (fp : List Addr), RTs (X.blk s H scope (compEnvC scope cl C X.env) fp) ifs tt)
    (he : ∀ (s : Shared) (H : Hp) (C : Addr) (cl : List (Str × Addr)) (fp : List Addr), RE (X.blk s H scope (compEnvC scope cl C X.env) fp) elt te) (hs : ∀ x, foldedSetIterable iter X.env x = pure x := by intro _; rfl) :
    RF X (.ListComp elt [⟨tg, iter, ifs, 0⟩] scope pos) (mLc ti g tt te (own.map (·.2))) :=
  ⟨fun W tk => (pe_lc (tt := cT X.K (fun _ _ _ _ => False) tt) (te := cE X.K (fun _ _ _ _ => False) te) hc hN (hi.run W tk) ok hg (fun s H C cl fp => (ht s H C cl fp).run (fun _ _ _ _ => False) takes0) (fun s H C cl fp => (he s H C cl fp).run (fun _ _ _ _ => False) takes0) hs).of fun σ H R h => lc_ok gk h⟩
/-- name = [..] on one line -/
theorem rs_setLc {i : Nat} {y : Str} {py spos : Pos} {elt tg iter : Expr} {ifs : List Expr} {scope : Scope} {own : List (Str × Nat)} {ti : MI} {g : MG} {gt : TG} {tt : MT} {te : ME} (hc : X.calm = true) (hN : X.N.Nodup) (hy : X.N[i]? = some y) (hyl : X.env.scope.names.lookup y = some .local)
    (hsw : swapsWith (.ListComp elt [⟨tg, iter, ifs, 0⟩] scope pos) (some (.Name y py)) spos.line X.env = pure true) (hi : RI X tg iter ti) (ok : BlkOk X.N X.env.scope scope own)
    (hg : ∀ (s : Shared) (H : Hp) (C : Addr) (cl : List (Str × Addr)) (fp : List Addr), PG (X.blk s H scope (compEnvC scope cl C X.env) fp) tg gt) (gk : GOk g gt (own.map (·.2)))
    (ht : ∀ (s : Shared) (H : Hp) (C : Addr) (cl : List (Str × Addr)) (fp : List Addr), RTs (X.blk s H scope (compEnvC scope cl C X.env) fp) ifs tt)
    (he : ∀ (s : Shared) (H : Hp) (C : Addr) (cl : List (Str × Addr)) (fp : List Addr), RE (X.blk s H scope (compEnvC scope cl C X.env) fp) elt te) (hs : ∀ x, foldedSetIterable iter X.env x = pure x := by intro _; rfl) :
    RS X (.Assign [.Name y py] (.ListComp elt [⟨tg, iter, ifs, 0⟩] scope pos) spos) (mSetF i (mLc ti g tt te (own.map (·.2)))) :=
  ⟨fun W tk => (ps_setLc (tt := cT X.K (fun _ _ _ _ => False) tt) (te := cE X.K (fun _ _ _ _ => False) te) hc hN hy hyl hsw (hi.run W tk) ok hg (fun s H C cl fp => (ht s H C cl fp).run (fun _ _ _ _ => False) takes0) (fun s H C cl fp => (he s H C cl fp).run (fun _ _ _ _ => False) takes0) hs).of fun D σ H h => by
    obtain ⟨C, e, MD, WD, G, ht, n, r, bk, ct⟩ := h
    refine lc_ok gk ⟨C, [], e, _, WD, G, ht, fun d e1 a H1 R1 l o q => ?_⟩
    have o' : Own C.K (Md C [a] e1) H1 d a := by rw [G.k]; exact o
    have na : a ∉ owns e1 := fun z => (List.nodup_append.mp R1.nd).2.2 a z a List.mem_cons_self rfl
    by_cases hl : i < e1.length
    · exact n _ _ _ (R1.setO hl o') (q a na)
    · have hs1 : e1.set i (.own a d) = e1 := List.set_eq_of_length_le (by omega)
      have hs2 : σ.set i (some (.ref a)) = σ := List.set_eq_of_length_le (by rw [← R1.len]; omega)
      have q' := q a na
      rw [hs1] at q'
      show D.nx (σ.set i (some (.ref a))) H1
      rw [hs2]
      exact n _ _ _ (R1.land G.ok).1 q'⟩
end
end DL
set_option maxHeartbeats 2000000
namespace DL
open PySem L2
/-! ### dicts with int and text keys -/
def keyD : D → Option Key
  | .int i => some (.inl i)
  | .str x => some (.inr x)
  | _ => none
theorem keyD_of {K : PySem.W.Frag} {M : Addr → Prop} {H : Hp} {d : D} {k : Key} {v : V} (h : keyD d = some k) (r : Rep K M H d v) : v = kV k := by
  cases d <;> cases h <;> exact r
def dGet (kvs : List (Key × D)) (k : Key) : Option D := (kvs.find? fun kv => decide (kv.1 = k)).map (·.2)
def dPut (kvs : List (Key × D)) (k : Key) (d : D) : List (Key × D) := if kvs.any (fun kv => decide (kv.1 = k)) then kvs.map (fun kv => if kv.1 = k then (kv.1, d) else kv) else kvs ++ [(k, d)]
section
variable {K : PySem.W.Frag} {M : Addr → Prop} {H : Hp}
theorem RepK.find {k : Key} : ∀ {kvs : List (Key × D)} {vs : List (Key × V)}, RepK K M H kvs vs → (dGet kvs k = none → valV vs k = none) ∧ ∀ d, dGet kvs k = some d → ∃ v, valV vs k = some v ∧ Rep K M H d v
  | [], _, h => by
    obtain rfl : _ = [] := h
    exact ⟨fun _ => rfl, fun d q => by cases q⟩
  | (g, d) :: kvs, _, ⟨(g', v), r, e, ⟨eg, hv⟩, t⟩ => by
    subst e
    obtain rfl : g' = g := eg
    obtain ⟨h1, h2⟩ := RepK.find (k := k) t
    unfold dGet at h1 h2 ⊢
    by_cases q : g' = k
    · rw [List.find?_cons, decide_eq_true (show ((g', d) : Key × D).1 = k from q), valV_pos (p := (g', v)) q]
      exact ⟨(fun z => by cases z), (fun d' z => by cases z; exact ⟨v, rfl, hv⟩)⟩
    · rw [List.find?_cons, decide_eq_false (show ¬ ((g', d) : Key × D).1 = k from q), valV_neg (p := (g', v)) q]
      exact ⟨h1, h2⟩
theorem RepK.length : ∀ {kvs : List (Key × D)} {vs : List (Key × V)}, RepK K M H kvs vs → kvs.length = vs.length
  | [], _, h => by obtain rfl : _ = [] := h; rfl
  | _ :: _, _, ⟨v, r, e, _, t⟩ => by subst e; simp [RepK.length t]
theorem RepK.append : ∀ {a b : List (Key × D)} {vs ws : List (Key × V)}, RepK K M H a vs → RepK K M H b ws → RepK K M H (a ++ b) (vs ++ ws)
  | [], _, _, _, h, q => by obtain rfl : _ = [] := h; exact q
  | _ :: _, _, _, _, ⟨v, r, e, h, t⟩, q => by subst e; exact ⟨v, _, rfl, h, RepK.append t q⟩
theorem RepK.any {k : Key} : ∀ {kvs : List (Key × D)} {vs : List (Key × V)}, RepK K M H kvs vs → (kvs.any fun kv => decide (kv.1 = k)) = vs.any fun kv => decide (kv.1 = k)
  | [], _, h => by obtain rfl : _ = [] := h; rfl
  | (g, d) :: kvs, _, ⟨(g', v), r, e, ⟨eg, hv⟩, t⟩ => by
    subst e
    obtain rfl : g' = g := eg
    rw [List.any_cons, List.any_cons, RepK.any t]
theorem RepK.mapk {k : Key} {d : D} {v : V} (h : Rep K M H d v) : ∀ {kvs : List (Key × D)} {vs : List (Key × V)}, RepK K M H kvs vs → RepK K M H (kvs.map fun kv => if kv.1 = k then (kv.1, d) else kv) (vs.map fun kv => if kv.1 = k then (kv.1, v) else kv)
  | [], _, e => by obtain rfl : _ = [] := e; rfl
  | (g, x) :: kvs, _, ⟨(g', u), r, e, ⟨eg, hu⟩, t⟩ => by
    subst e
    obtain rfl : g' = g := eg
    rw [List.map_cons, List.map_cons]
    refine ⟨_, _, rfl, ?_, RepK.mapk h t⟩
    by_cases q : g' = k
    · show RepKP K M H (if g' = k then (g', d) else (g', x)) (if g' = k then (g', v) else (g', u))
      rw [if_pos q, if_pos q]; exact ⟨rfl, h⟩
    · show RepKP K M H (if g' = k then (g', d) else (g', x)) (if g' = k then (g', v) else (g', u))
      rw [if_neg q, if_neg q]; exact ⟨rfl, hu⟩
theorem RepK.put {k : Key} {d : D} {v : V} (h : Rep K M H d v) {kvs : List (Key × D)} {vs : List (Key × V)} (r : RepK K M H kvs vs) : RepK K M H (dPut kvs k d) (putK vs k v) := by
  unfold dPut putK
  rw [r.any]
  split
  · exact r.mapk h
  · exact r.append ⟨(k, v), [], rfl, ⟨rfl, h⟩, rfl⟩
end
section
variable {X : Cx} {pos : Pos} {e a b o i value : Expr} {t ta tb tv : ME} {qa : MQ}
theorem rf_dnew : RF X (.Dict [] [] pos) (mC (.dct [])) := ⟨fun W tk => pe_dnewK.of fun σ H R ⟨C, fl, e, Q, WD, G, ht, k⟩ => fun p hp => by
  obtain ⟨R2, l2⟩ := G.st.float G.ok (o := .dK []) hp trivial
  exact k (.dct []) e p _ R2 l2 ⟨[], upd_same, rfl⟩ ht⟩
def kD (k : List (Key × D) → Prop) : D → Prop
  | .dct kvs => k kvs
  | _ => False
theorem kD_of {k : List (Key × D) → Prop} {x : D} (h : kD k x) : ∃ kvs, x = .dct kvs ∧ k kvs := by
  cases x <;> first | exact h.elim | exact ⟨_, rfl, h⟩
/-- d[k], k in d, d.get(k, z) : d is looked at -/
def oDGet : DR2 := fun x y k => kD (fun kvs => ∃ key, keyD y = some key ∧ ∃ d, dGet kvs key = some d ∧ k d) x
theorem twoQ' {K : PySem.W.Frag} {W : WX} {C : Cn} {fl : List Addr} {σ : L2.St} {H : Hp} {e : En} {WD : WE} (G : Gd K W C fl σ H e WD) {Q : D → D → En → Prop} {R : V → V → Hp → Prop}
    (h : qa e (fun p e1 => tb e1 (fun y e2 => rsD e2 p fun x => Q x y e2) WD) WD)
    (k : ∀ x y e2 v u H2, StR C fl σ H2 e2 → Later fl (Md C fl e) H (Md C fl e2) H2 → Pk K C fl e2 H2 x v → Rep K (Md C fl e2) H2 y u → Q x y e2 → R v u H2) :
    cQ K W qa σ H fun v H1 => cE K W tb σ H1 fun u H2 => R v u H2 :=
  ⟨C, fl, e, _, WD, G, h, fun p e1 v H1 R1 l1 r1 h1 => ⟨C, fl, e1, _, WD, G.to R1, h1, fun y e2 u H2 R2 l2 r2 h2 => by
    obtain ⟨x, px, hq⟩ := (r1.later l2).res R2 G.k h2
    exact k x y e2 v u H2 R2 (l1.trans l2) px r2 hq⟩⟩
theorem re_dget (hu : X.A.units + 1 < cLine) (ha : RQ X a qa) (hb : RE X b tb) (hs : NoSl b) : RE X (.Subscript a b pos) (mOpQ oDGet qa tb) :=
  ⟨fun W tk => (pe_dget hu (ha.run W tk) (hb.run W tk) hs).of fun σ H R ⟨C, fl, e, Q, WD, G, ht, k⟩ => twoQ' (Q := fun x y e2 => oDGet x y fun z => Q z e2) G ht fun x y e2 v u H2 R2 l px ry q => by
    obtain ⟨kvs, rfl, key, hk, d, hd, hq⟩ := kD_of q
    obtain ⟨p, vs, rfl, hp, rs⟩ := px.dct R2 G.k
    obtain rfl := keyD_of hk ry
    obtain ⟨w, hw, rw_⟩ := (rs.find (k := key)).2 d hd
    exact ⟨p, w, rfl, .inl ⟨vs, key, hp, rfl, hw.symm⟩, k d e2 w H2 R2 l rw_ hq⟩⟩
def oDIn (neg : Bool) : DR2 := fun x y k => kD (fun kvs => ∃ key, keyD x = some key ∧ k (.bl (if neg then !(dGet kvs key).isSome else (dGet kvs key).isSome))) y
theorem dIn_ok {K : PySem.W.Frag} {C : Cn} {fl : List Addr} {σ : L2.St} {H : Hp} {e : En} {x y : D} {v u : V} {neg : Bool} {k : D → Prop} (R : StR C fl σ H e) (ck : C.K = K) (rx : Rep K (Md C fl e) H x v) (py : Pk K C fl e H y u) (q : oDIn neg x y k) :
    ∃ a o, u = .ref a ∧ DGet H a v o ∧ k (.bl (if neg then !o.isSome else o.isSome)) := by
  obtain ⟨kvs, rfl, key, hk, hq⟩ := kD_of q
  obtain ⟨p, vs, rfl, hp, rs⟩ := py.dct R ck
  obtain rfl := keyD_of hk rx
  refine ⟨p, valV vs key, rfl, .inl ⟨vs, key, hp, rfl, rfl⟩, ?_⟩
  obtain ⟨h1, h2⟩ := rs.find (k := key)
  have e : (valV vs key).isSome = (dGet kvs key).isSome := by
    cases z : dGet kvs key with
    | none => rw [h1 z] <;> rfl
    | some d => obtain ⟨w, hw, _⟩ := h2 d z; rw [hw] <;> rfl
  rw [e]
  exact hq
def mInP (r : DR2) (ta tb : ME) : ME := fun e Q W => ta e (fun x e1 => tb e1 (fun y e2 => r x y fun z => Q z e2) W) W
theorem re_din (hu : X.A.units + 1 < cLine) (ha : RE X a ta) (hb : RP X b tb) (hm : behindInMarks .In b = false := by rfl) : RE X (.Compare a [.In] [b] pos) (mInP (oDIn false) ta tb) :=
  ⟨fun W tk => (pe_cmp (pc_din hu (ha.run W tk) (hb.run W tk)) hm).of fun σ H R ⟨C, fl, e, Q, WD, G, ht, k⟩ => ⟨C, fl, e, _, WD, G, ht, fun x e1 v H1 R1 l1 rx h1 => ⟨C, fl, e1, _, WD, G.to R1, h1, fun y e2 u H2 R2 l2 py h2 => by
    obtain ⟨p, o, eu, hg, hq⟩ := dIn_ok R2 G.k (rx.later l2) py h2
    exact ⟨p, o, eu, hg, k (.bl o.isSome) e2 _ H2 R2 (l1.trans l2) rfl hq⟩⟩⟩⟩
theorem re_dnotin (hu : X.A.units + 1 < cLine) (ha : RE X a ta) (hb : RP X b tb) (hm : behindInMarks .NotIn b = false := by rfl) : RE X (.Compare a [.NotIn] [b] pos) (mInP (oDIn true) ta tb) :=
  ⟨fun W tk => (pe_cmp (pc_dnotin hu (ha.run W tk) (hb.run W tk)) hm).of fun σ H R ⟨C, fl, e, Q, WD, G, ht, k⟩ => ⟨C, fl, e, _, WD, G, ht, fun x e1 v H1 R1 l1 rx h1 => ⟨C, fl, e1, _, WD, G.to R1, h1, fun y e2 u H2 R2 l2 py h2 => by
    obtain ⟨p, o, eu, hg, hq⟩ := dIn_ok R2 G.k (rx.later l2) py h2
    exact ⟨p, o, eu, hg, k (.bl (!o.isSome)) e2 _ H2 R2 (l1.trans l2) rfl hq⟩⟩⟩⟩
theorem rt_din (hu : X.A.units + 1 < cLine) (ha : RE X a ta) (hb : RP X b tb) (hm : behindInMarks .In b = false := by rfl) : RT X (.Compare a [.In] [b] pos) (mTest (mInP (oDIn false) ta tb)) :=
  ⟨fun W tk => (pt_cmp (pc_din hu (ha.run W tk) (hb.run W tk)) hm).of fun σ H R ⟨C, fl, e, Q, WD, G, ht, k⟩ => ⟨C, fl, e, _, WD, G, ht, fun x e1 v H1 R1 l1 rx h1 => ⟨C, fl, e1, _, WD, G.to R1, h1, fun y e2 u H2 R2 l2 py h2 => by
    obtain ⟨p, o, eu, hg, hq⟩ := dIn_ok R2 G.k (rx.later l2) py h2
    exact ⟨p, o, eu, hg, o.isSome, rfl, k _ e2 H2 R2 (l1.trans l2) hq⟩⟩⟩⟩
theorem rt_dnotin (hu : X.A.units + 1 < cLine) (ha : RE X a ta) (hb : RP X b tb) (hm : behindInMarks .NotIn b = false := by rfl) : RT X (.Compare a [.NotIn] [b] pos) (mTest (mInP (oDIn true) ta tb)) :=
  ⟨fun W tk => (pt_cmp (pc_dnotin hu (ha.run W tk) (hb.run W tk)) hm).of fun σ H R ⟨C, fl, e, Q, WD, G, ht, k⟩ => ⟨C, fl, e, _, WD, G, ht, fun x e1 v H1 R1 l1 rx h1 => ⟨C, fl, e1, _, WD, G.to R1, h1, fun y e2 u H2 R2 l2 py h2 => by
    obtain ⟨p, o, eu, hg, hq⟩ := dIn_ok R2 G.k (rx.later l2) py h2
    exact ⟨p, o, eu, hg, !o.isSome, rfl, k _ e2 H2 R2 (l1.trans l2) hq⟩⟩⟩⟩
/-- d.get(k, z) -/
def mDGet2 (ta tb tc : ME) : ME := fun e Q W => ta e (fun x e1 => kD (fun kvs => tb e1 (fun y e2 => tc e2 (fun z e3 => ∃ key, keyD y = some key ∧ Q ((dGet kvs key).getD z) e3) W) W) x) W
theorem re_dget2 {c : Expr} {tc : ME} {apos cpos : Pos} (hu : X.A.units + 1 < cLine) (ha : RE X a ta) (hb : RE X b tb) (hc : RE X c tc) (m : M2 X a "get" apos b c cpos) : RE X (.Call (.Attribute a "get" apos) [b, c] [] cpos) (mDGet2 ta tb tc) :=
  ⟨fun W tk => (pe_dget2 hu (ha.run W tk) (hb.run W tk) (hc.run W tk) m).of fun σ H R ⟨C, fl, e, Q, WD, G, ht, k⟩ => ⟨C, fl, e, _, WD, G, ht, fun x e1 v H1 R1 l1 rx h1 => by
    obtain ⟨kvs, rfl, h1⟩ := kD_of h1
    obtain ⟨p, vs, rfl, np, hp, rs⟩ := id rx
    refine ⟨p, rfl, .inl ⟨vs, hp⟩, C, fl, e1, _, WD, G.to R1, h1, fun y e2 u H2 R2 l2 ry h2 => ⟨C, fl, e2, _, WD, G.to R2, h2, fun z e3 w H3 R3 l3 rz ⟨key, hk, hq⟩ => ?_⟩⟩
    obtain rfl := keyD_of hk ry
    obtain ⟨p', vs', ep, np', hp', rs'⟩ := (rx.later l2).later l3
    cases ep
    refine ⟨valV vs' key, .inl ⟨vs', key, hp', rfl, rfl⟩, k _ e3 _ H3 R3 ((l1.trans l2).trans l3) ?_ hq⟩
    obtain ⟨h5, h6⟩ := rs'.find (k := key)
    cases zz : dGet kvs key with
    | none => rw [h5 zz]; exact rz
    | some d =>
      obtain ⟨w', hw', rw'⟩ := h6 d zz
      rw [hw']
      exact rw'⟩⟩
/-- d[k] = v, d an owned local -/
def dctO : Option Slot → (Addr → List (Key × D) → Prop) → Prop
  | some (.own a (.dct ds)), k => k a ds
  | _, _ => False
theorem dctO_of {o : Option Slot} {k : Addr → List (Key × D) → Prop} (h : dctO o k) : ∃ a ds, o = some (.own a (.dct ds)) ∧ k a ds := by
  unfold dctO at h
  split at h
  · exact ⟨_, _, rfl, h⟩
  · exact h.elim
def mDPut (j : Nat) (tv ti : ME) : MS := fun MD e W => tv e (fun x e1 => dctO e1[j]? fun _ _ => ti e1 (fun y e2 => dctO e2[j]? fun a kvs => ∃ key, keyD y = some key ∧ kvs.length < sizeLine ∧ MD.nx (e2.set j (.own a (.dct (dPut kvs key x))))) W) W
theorem rs_dput {j : Nat} {pos' : Pos} {ti : ME} (hu : X.A.units + 1 < cLine) (ho : PE X o (tVar j)) (hi : RE X i ti) (hv : RE X value tv) (hs : swapsWith value (some (.Subscript o i pos')) pos.line X.env = pure false := by rfl) : RS X (.Assign [.Subscript o i pos'] value pos) (mDPut j tv ti) :=
  ⟨fun W tk => (ps_dput hu ho (hi.run W tk) (hv.run W tk) hs).of fun D σ H ⟨C, e, MD, WD, G, ht, nx, r, bk, ct⟩ => ⟨C, [], e, _, WD, G, ht, fun d e1 v H1 R1 l1 rp q => by
    obtain ⟨a, kvs0, hj, q⟩ := dctO_of q
    obtain ⟨es, _⟩ := R1.getO hj
    refine ⟨.ref a, es, C, [], e1, _, WD, G.to R1, q, fun y e2 u H2 R2 l2 ry q2 => ?_⟩
    obtain ⟨b, kvs, hj2, key, hk, hz, q2⟩ := dctO_of q2
    obtain ⟨es2, vs, hb, rs⟩ := R2.getO hj2
    have hab : a = b := by rw [es] at es2; cases es2; rfl
    subst hab
    obtain rfl := keyD_of hk ry
    have hm : Md C [] e2 a := .inr (.inl (ownOf hj2))
    have rp' : Rep C.K (Md C [] e2) H2 d v := by rw [G.k]; exact rp.later l2
    have lp := later_put (o := .dK (putK vs key v)) hm ⟨_, hb, trivial⟩
    exact ⟨a, _, rfl, .inl ⟨vs, key, hb, rfl, by rw [← rs.length]; exact hz, rfl⟩, nx _ _ _ (R2.put (o := .dK (putK vs key v)) (y := .dct (dPut kvs key d)) hj2 trivial ⟨_, upd_same, (rs.put rp').later lp⟩).1 q2⟩⟩⟩
/-- dict(d) -/
@[simp] def oDict : DR1 := fun x k => kD (fun kvs => k (.dct kvs)) x
theorem lift_dict {K : PySem.W.Frag} : LiftPF K oDict (fun xs H Q => ∃ (a : Addr) (kvs : List (Key × V)), xs = [.ref a] ∧ Rd H a (.dK kvs) ∧ ∀ p, H p = none → Q (.ref p) (upd H p (.dK kvs))) := fun C fl σ H e d v k R cn ck st pk q z => by
  obtain ⟨kvs, rfl, hq⟩ := kD_of q
  obtain ⟨a, vs, rfl, ha, rs⟩ := pk.dct st ck
  refine ⟨a, vs, rfl, ha, fun p hp => ?_⟩
  obtain ⟨R2, l2⟩ := st.float cn (o := .dK vs) hp trivial
  exact z _ _ _ hq R2 l2 ⟨vs, upd_same, rs.later l2⟩
/-! ### an owned list: xs[i] = e, xs.pop() -/
def mPutL (j : Nat) (tv ti : ME) : MS := fun MD e W => tv e (fun x e1 => lstO e1[j]? fun _ _ => ti e1 (fun y e2 => lstO e2[j]? fun a ds => kI (fun i => ∃ n, ixN ds.length i = some n ∧ MD.nx (e2.set j (.own a (.lst (ds.set n x))))) y) W) W
theorem rs_putL {j : Nat} {pos' : Pos} {ti : ME} (ho : PE X o (tVar j)) (hi : RE X i ti) (hv : RE X value tv) (ha : ∀ v, assign (.Subscript o i pos') X.env v = (do let ov ← holding [v] (eval o X.env); let iv ← holding [v, ov] (eval i X.env); standAt pos'; holding [v, ov, iv] (setItem ov iv v); release [v, ov, iv] []) := by intro _; rfl)
    (hs : swapsWithSole [.Subscript o i pos'] value pos.line X.env = pure false := by rfl) (hw : swappedStores [.Subscript o i pos'] value X.env = pure none := by rfl) (h1 : (assignEach [.Subscript o i pos'] X.env).map (·.2) = [assign (.Subscript o i pos') X.env] := by rfl) : RS X (.Assign [.Subscript o i pos'] value pos) (mPutL j tv ti) :=
  ⟨fun W tk => (ps_asg (hv.run W tk) (pg_sub ho (hi.run W tk) set_list ha) hs hw h1).of fun D σ H ⟨C, e, MD, WD, G, ht, nx, r, bk, ct⟩ => ⟨C, [], e, _, WD, G, ht, fun d e1 v H1 R1 l1 rp q => by
    obtain ⟨a, ds0, hj, q⟩ := lstO_of q
    obtain ⟨es, _⟩ := R1.getO hj
    refine ⟨.ref a, es, C, [], e1, _, WD, G.to R1, q, fun y e2 u H2 R2 l2 ry q2 => ?_⟩
    obtain ⟨b, ds, hj2, q2⟩ := lstO_of q2
    obtain ⟨k, rfl, n, hn, q2⟩ := kI_of q2
    obtain ⟨es2, vs, hb, rs⟩ := R2.getO hj2
    have hab : a = b := by rw [es] at es2; cases es2; rfl
    subst hab
    have hm : Md C [] e2 a := .inr (.inl (ownOf hj2))
    have rp' : Rep C.K (Md C [] e2) H2 d v := by rw [G.k]; exact rp.later l2
    have lp := later_put (o := .lst (vs.set n v)) hm ⟨_, hb, trivial⟩
    exact ⟨a, vs, k, n, rfl, ry, hb, by rw [← rs.length]; exact hn, nx _ _ _ (R2.put (o := .lst (vs.set n v)) (y := .lst (ds.set n d)) hj2 trivial ⟨_, upd_same, (Reps.set rp' n rs).later lp⟩).1 q2⟩⟩⟩
def mPop (j : Nat) : ME := fun e Q _ => lstO e[j]? fun a ds => ∃ d, ds[ds.length - 1]? = some d ∧ Q d (e.set j (.own a (.lst ds.dropLast)))
theorem re_pop {j : Nat} {apos : Pos} (ho : PE X o (tVar j)) (hbase : attributeBase o "pop" X.env (eval o X.env) = eval o X.env := by rfl) (hline : (apos.endLine == pos.line) = true := by rfl) : RE X (.Call (.Attribute o "pop" apos) [] [] pos) (mPop j) :=
  ⟨fun W tk => (pe_bm0 PySem.F.plainAttrs_list PySem.F.slot_list_pop PySem.F.type_list_pop mt_pop ho hbase hline).of fun σ H R ⟨C, fl, e, Q, WD, G, ht, k⟩ => by
    obtain ⟨a, ds, hj, d, hd, hq⟩ := lstO_of ht
    obtain ⟨es, vs, hb, rs⟩ := G.st.getO hj
    obtain ⟨v, hv, rv⟩ := rs.get hd
    rw [rs.length] at hv
    have hm : Md C fl e a := .inr (.inl (ownOf hj))
    have lp := later_put (o := .lst vs.dropLast) hm ⟨_, hb, trivial⟩
    obtain ⟨R2, l2⟩ := G.st.put (o := .lst vs.dropLast) (y := .lst ds.dropLast) hj trivial ⟨_, upd_same, rs.dropLast.later lp⟩
    refine ⟨.ref a, es, .inl ⟨rfl, vs, SqL.of hb⟩, a, vs, v, rfl, rfl, hb, hv, k d _ v _ R2 l2 ?_ hq⟩
    rw [← G.k]
    exact rv.later l2⟩
/-! ### reversed(xs) in a for -/
def mRevI (t : ME) : MI := fun e Q W => t e (fun x e1 => match x with | .lst ds => Q ds.reverse e1 | _ => False) W
theorem itOk_rev {K : PySem.W.Frag} {M : Addr → Prop} {H : Hp} {a : Addr} {ds : List D} {vs : List V} (r : Reps K M H ds vs) (h : ∀ M2 H2, Later [] M H M2 H2 → SqL K H2 a vs) : ItOk K (Itv K a vs.length) ds.reverse M H where
  go := fun M2 H2 l i d hd => by
    have hq := h M2 H2 l
    have hi : i < ds.length := by
      have := (List.getElem?_eq_some_iff.mp hd).1
      rw [List.length_reverse] at this
      exact this
    rw [List.getElem?_reverse hi] at hd
    obtain ⟨v, hv, rv⟩ := r.get hd
    rw [r.length] at hv hi
    exact ⟨⟨hi, vs, v, hq, hv⟩, fun x H3 y => by
      obtain ⟨e, y⟩ := y
      subst e
      obtain rfl : v = x := Option.some.inj (hv.symm.trans (y vs hq))
      exact ⟨fun _ _ z => z, rv.later l⟩⟩
  stop := fun M2 H2 l => by
    show vs.length ≤ ds.reverse.length
    rw [List.length_reverse, r.length]
    exact Nat.le_refl _
theorem ri_rev {tg : Expr} {p : Pos} (hg : Gl X "reversed") (hm : X.mg "reversed" = none) (ha : RE X e t) (hs : starEach [e] X.env = [(false, eval e X.env)] := by rfl) : RI X tg (.Call (.Name "reversed" p) [e] [] pos) (mRevI t) :=
  ⟨fun W tk => (pi_reversed hg hm (pa_cons (ha.run W tk) pa_nil hs) hs).of fun σ H R ⟨C, fl, e, Q, WD, G, ht, k⟩ => ⟨C, fl, e, _, WD, G, ht, fun d e1 v H1 R1 l1 r q => by
    cases d with
    | lst ds =>
      obtain ⟨a, vs, rfl, n, ha, rs⟩ := r
      exact ⟨a, vs, rfl, SqL.of ha, k _ e1 H1 _ R1 l1 (itOk_rev rs fun M2 H2 l2 => SqL.of (l2.keep _ _ ha (.inl n))) q⟩
    | _ => exact q.elim⟩⟩
/-! ### isinstance(x, T), T a built-in type -/
@[simp] def tyD : D → Option String
  | .non => some "NoneType"
  | .bl _ => some "bool"
  | .int _ => some "int"
  | .str _ => some "str"
  | .lst _ => some "list"
  | .tup _ => some "tuple"
  | .dct _ => some "dict"
  | _ => none
theorem tyX_of {K : PySem.W.Frag} {M : Addr → Prop} {H : Hp} {d : D} {v : V} {n : String} (h : tyD d = some n) (r : Rep K M H d v) : TyX K H v (.type n) := by
  cases d with
  | non => cases h; obtain rfl : v = .non := r; exact .base .non
  | bl b => cases h; obtain rfl : v = .bl b := r; exact .base (.bl b)
  | int b => cases h; obtain rfl : v = .int b := r; exact .base (.int b)
  | str b => cases h; obtain rfl : v = .str b := r; exact .base (.str b)
  | lst _ => cases h; obtain ⟨a, vs, rfl, n, ha, _⟩ := r; exact .base (.lst ha)
  | tup _ =>
    cases h
    obtain ⟨a, vs, rfl, ha, _⟩ := r
    rcases ha with (ha | ⟨o, ha⟩) | ⟨o, its, n, hk, hc, _⟩
    · exact .base (.tup ha)
    · exact .fTuple ha
    · exact .kTuple hk hc
  | dct _ =>
    cases h
    obtain ⟨a, vs, rfl, n, ha, _⟩ := r
    rcases ha with ha | ⟨o, ha⟩
    · exact .base (.dK ha)
    · exact .fDict ha
  | scr _ => cases h
  | obj _ _ => cases h
  | adr _ => cases h
  | exc _ _ _ _ => cases h
/-- what isinstance says of the type names -/
def isiB (a b : String) : Option Bool := kitB a b
def mIsi (T : String) (t : ME) : ME := fun e Q W => t e (fun x e1 => ∃ n b, tyD x = some n ∧ isiB n T = some b ∧ Q (.bl b) e1) W
theorem re_isi {T : String} {c : Expr} {p : Pos} (hg : Gl X "isinstance") (hm : X.mg "isinstance" = none) (ha : RE X e t) (hc : PE X c (tC (.ty T))) (hv : bootBuiltins "isinstance" = some (.builtin "isinstance") := by decide +kernel)
    (hs : starEach [e, c] X.env = (false, eval e X.env) :: starEach [c] X.env := by rfl) (hs2 : starEach [c] X.env = (false, eval c X.env) :: starEach [] X.env := by rfl) (hpl : (backTo pos (starEach [c] X.env)).any (·.1) = false := by rfl) : RE X (.Call (.Name "isinstance" p) [e, c] [] pos) (mIsi T t) :=
  ⟨fun W tk => (pe_callB call_isi hg hm hv (pa_cons (ha.run W tk) (pa_cons hc pa_nil hs2) hs) (by decide) (by decide) hs hpl).of fun σ H R ⟨C, fl, e, Q, WD, G, ht, k⟩ => ⟨C, fl, e, _, WD, G, ht, fun x e1 v H1 R1 l1 rx ⟨n, b, hn, hb, hq⟩ =>
    ⟨v, .ty T, .type n, .type T, b, rfl, .ty T, tyX_of hn rx, kit_ty hb, k (.bl b) e1 _ H1 R1 l1 rfl hq⟩⟩⟩
/-- x is True, x is False, of truth values -/
def kB2 (k : Bool → Bool → Prop) : D → D → Prop
  | .bl a, .bl b => k a b
  | _, _ => False
theorem kB2_of {k : Bool → Bool → Prop} {x y : D} (h : kB2 k x y) : ∃ a b, x = .bl a ∧ y = .bl b ∧ k a b := by
  cases x <;> cases y <;> first | exact h.elim | exact ⟨_, _, rfl, rfl, h⟩
def oIsBl : DR2 := fun x y k => kB2 (fun a b => k (.bl (decide (a = b)))) x y
def oNotBl : DR2 := fun x y k => kB2 (fun a b => k (.bl (!decide (a = b)))) x y
theorem lift_isBl {K : PySem.W.Frag} : Lift2 K oIsBl rIsB := fun M H x y v u k R rx ry q z => by
  obtain ⟨a, b, rfl, rfl, hq⟩ := kB2_of q
  exact ⟨a, b, rx, ry, z _ _ hq rfl⟩
theorem lift_notBl {K : PySem.W.Frag} : Lift2 K oNotBl rNotB := fun M H x y v u k R rx ry q z => by
  obtain ⟨a, b, rfl, rfl, hq⟩ := kB2_of q
  exact ⟨a, b, rx, ry, z _ _ hq rfl⟩
end
end DL
set_option maxHeartbeats 2000000
namespace DL
open PySem L2
/-! ### operators that look at what comes -/
theorem LiftQ2.orL {K : PySem.W.Frag} {r : DR2} {a b : R2} (h : LiftQ2 K r a) : LiftQ2 K r (fun x y H Q => a x y H Q ∨ b x y H Q) := fun C fl σ H e x y v u k R ck st px py q z => .inl (h C fl σ H e x y v u k R ck st px py q z)
/-- == | != -/
def oEqA : DR2 := fun x y k => if scalD x y = true then k (.bl (decide (toV x = toV y))) else oEqD x y k
def oNeA : DR2 := fun x y k => if scalD x y = true then k (.bl (!decide (toV x = toV y))) else oNeD x y k
theorem lift_eqA {K : PySem.W.Frag} : LiftQ2 K oEqA (fun x y H Q => rEq x y H Q ∨ rEqD K x y H Q) := fun C fl σ H e x y v u k R ck st px py q z => by
  unfold oEqA at q
  split at q
  · rename_i h
    obtain ⟨a, b, c⟩ := scalD_of h
    rw [px.sc st ck a, py.sc st ck b]
    exact .inl ⟨c, z _ _ q rfl⟩
  · exact .inr (lift_eqD C fl σ H e x y v u k R ck st px py q z)
theorem lift_neA {K : PySem.W.Frag} : LiftQ2 K oNeA (fun x y H Q => rNe x y H Q ∨ rNeD K x y H Q) := fun C fl σ H e x y v u k R ck st px py q z => by
  unfold oNeA at q
  split at q
  · rename_i h
    obtain ⟨a, b, c⟩ := scalD_of h
    rw [px.sc st ck a, py.sc st ck b]
    exact .inl ⟨c, z _ _ q rfl⟩
  · exact .inr (lift_neD C fl σ H e x y v u k R ck st px py q z)
section
variable {X : Cx} {pos : Pos} {a b e : Expr} {ta tb t : ME} {qa : MQ}
theorem re_eqA (hu : X.A.units + 64 < cLine) (ha : RQ X a qa) (hb : RP X b tb) (hm : behindInMarks .Eq b = false := nomark _) : RE X (.Compare a [.Eq] [b] pos) (mOpQ oEqA qa tb) := re_Q2 (fun h1 h2 => pe_cmpR (OpR.or op_eq (op_eqD hu)) h1 h2 hm) lift_eqA ha hb
theorem rt_eqA (hu : X.A.units + 64 < cLine) (ha : RQ X a qa) (hb : RP X b tb) (hm : behindInMarks .Eq b = false := nomark _) : RT X (.Compare a [.Eq] [b] pos) (mTest (mOpQ oEqA qa tb)) := rt_Q2 (fun h1 h2 => pt_cmpR (OpR.or op_eq (op_eqD hu)) h1 h2 hm) lift_eqA ha hb
theorem re_neA (hu : X.A.units + 64 < cLine) (ha : RQ X a qa) (hb : RP X b tb) (hm : behindInMarks .NotEq b = false := nomark _) : RE X (.Compare a [.NotEq] [b] pos) (mOpQ oNeA qa tb) := re_Q2 (fun h1 h2 => pe_cmpR (OpR.or op_ne (op_neD hu)) h1 h2 hm) lift_neA ha hb
theorem rt_neA (hu : X.A.units + 64 < cLine) (ha : RQ X a qa) (hb : RP X b tb) (hm : behindInMarks .NotEq b = false := nomark _) : RT X (.Compare a [.NotEq] [b] pos) (mTest (mOpQ oNeA qa tb)) := rt_Q2 (fun h1 h2 => pt_cmpR (OpR.or op_ne (op_neD hu)) h1 h2 hm) lift_neA ha hb
/-- in | not in -/
def rDInV (neg : Bool) : R2 := fun y x H Q => ∃ a o, x = .ref a ∧ DGet H a y o ∧ Q (.bl (if neg then !o.isSome else o.isSome)) H
theorem op_dIn (hu : X.A.units + 1 < cLine) : OpR X (compareOp .In) (rDInV false) := fun pins s σ H x y v u Q I rx ry ⟨a, o, ey, g, q⟩ => by
  subst ey
  obtain rfl : u = Value.ref a := ry
  exact d_in hu I g rx fun s3 I3 => ⟨.bl o.isSome, H, I3, rfl, q⟩
theorem op_dNotIn (hu : X.A.units + 1 < cLine) : OpR X (compareOp .NotIn) (rDInV true) := fun pins s σ H x y v u Q I rx ry ⟨a, o, ey, g, q⟩ => by
  subst ey
  obtain rfl : u = Value.ref a := ry
  exact d_notIn hu I g rx fun s3 I3 => ⟨.bl (!o.isSome), H, I3, rfl, q⟩
def rInStr (neg : Bool) : R2 := fun x y H Q => ∃ i j, x = .str i ∧ y = .str j ∧ Q (.bl (if neg then !(!(Builtin.Str.occurrences j i 0 j.length 1).isEmpty) else !(Builtin.Str.occurrences j i 0 j.length 1).isEmpty)) H
def oInA (neg : Bool) : DR2 := fun x y k => match y with
  | .dct _ => oDIn neg x y k
  | .str j => kS (fun i => k (.bl (if neg then !(!(Builtin.Str.occurrences j i 0 j.length 1).isEmpty) else !(Builtin.Str.occurrences j i 0 j.length 1).isEmpty))) x
  | _ => oInF neg x y k
def rInA (K : PySem.W.Frag) (neg : Bool) : R2 := fun x y H Q => (rIn K neg x y H Q ∨ rDInV neg x y H Q) ∨ rInStr neg x y H Q
theorem lift_inA {K : PySem.W.Frag} {neg : Bool} : LiftQ2 K (oInA neg) (rInA K neg) := fun C fl σ H e x y v u k R ck st px py q z => by
  cases hy : y with
  | dct kvs =>
    subst hy
    obtain ⟨kvs, e1, key, hk, hq⟩ := kD_of (show kD (fun kvs => ∃ key, keyD x = some key ∧ k (.bl (if neg then !(dGet kvs key).isSome else (dGet kvs key).isSome))) (.dct kvs) from q)
    have rx : Rep K (Md C fl e) H x v := by
      rcases px.cases st ck with h | ⟨i, a, _, _, h⟩
      · exact h
      · cases x <;> first | exact h.elim | (cases hk)
    obtain ⟨a, o, eu, hg, hq2⟩ := dIn_ok st ck rx py q
    exact .inl (.inr ⟨a, o, eu, hg, z _ _ hq2 rfl⟩)
  | str j =>
    subst hy
    obtain ⟨i, rfl, hq⟩ := kS_of q
    obtain rfl := px.sc st ck rfl
    obtain rfl := py.sc st ck rfl
    exact .inr ⟨i, j, rfl, rfl, z _ _ hq rfl⟩
  | _ =>
    subst hy
    exact .inl (.inl (lift_in C fl σ H e x _ v u k R ck st px py q z))
theorem op_inA (hu : X.A.units + 1 < cLine) : OpR X (compareOp .In) (rInA X.K false) := OpR.or (OpR.or op_in_seq (op_dIn hu)) op_in_str
theorem op_notinA (hu : X.A.units + 1 < cLine) : OpR X (compareOp .NotIn) (rInA X.K true) := OpR.or (OpR.or op_notIn_seq (op_dNotIn hu)) op_notin_str
theorem re_inA (hu : X.A.units + 1 < cLine) (ha : RE X a ta) (hb : RP X b tb) (hm : behindInMarks .In b = false := by rfl) : RE X (.Compare a [.In] [b] pos) (mOpQ (oInA false) (mQE ta) tb) := re_Q2 (fun h1 h2 => pe_cmpR (op_inA hu) h1 h2 hm) lift_inA (rq_e ha) hb
theorem rt_inA (hu : X.A.units + 1 < cLine) (ha : RE X a ta) (hb : RP X b tb) (hm : behindInMarks .In b = false := by rfl) : RT X (.Compare a [.In] [b] pos) (mTest (mOpQ (oInA false) (mQE ta) tb)) := rt_Q2 (fun h1 h2 => pt_cmpR (op_inA hu) h1 h2 hm) lift_inA (rq_e ha) hb
theorem re_notinA (hu : X.A.units + 1 < cLine) (ha : RE X a ta) (hb : RP X b tb) (hm : behindInMarks .NotIn b = false := by rfl) : RE X (.Compare a [.NotIn] [b] pos) (mOpQ (oInA true) (mQE ta) tb) := re_Q2 (fun h1 h2 => pe_cmpR (op_notinA hu) h1 h2 hm) lift_inA (rq_e ha) hb
theorem rt_notinA (hu : X.A.units + 1 < cLine) (ha : RE X a ta) (hb : RP X b tb) (hm : behindInMarks .NotIn b = false := by rfl) : RT X (.Compare a [.NotIn] [b] pos) (mTest (mOpQ (oInA true) (mQE ta) tb)) := rt_Q2 (fun h1 h2 => pt_cmpR (op_notinA hu) h1 h2 hm) lift_inA (rq_e ha) hb
/-- < <= > >= of ints, of texts -/
def oIS (f : Int → Int → Bool) (g : Str → Str → Bool) : DR2 := fun x y k => match x with
  | .str i => kS (fun j => k (.bl (g i j))) y
  | _ => kI (fun i => kI (fun j => k (.bl (f i j))) y) x
def rISV (f : Int → Int → Bool) (g : Str → Str → Bool) : R2 := fun x y H Q => rI0 (fun i j => .bl (f i j)) x y H Q ∨ ∃ i j, x = .str i ∧ y = .str j ∧ Q (.bl (g i j)) H
theorem lift_IS {K : PySem.W.Frag} {f : Int → Int → Bool} {g : Str → Str → Bool} : Lift2 K (oIS f g) (rISV f g) := fun M H x y v u k R rx ry q z => by
  cases hx : x with
  | str i =>
    subst hx
    obtain ⟨j, rfl, hq⟩ := kS_of q
    exact .inr ⟨i, j, rx, ry, z _ _ hq rfl⟩
  | int i =>
    subst hx
    obtain ⟨j, rfl, hq⟩ := kI_of (show kI (fun j => k (.bl (f i j))) y from q)
    exact .inl ⟨i, j, rx, ry, z _ _ hq rfl⟩
  | _ => subst hx; exact q.elim
abbrev oLtA : DR2 := oIS (fun i j => decide (i < j)) fun i j => decide (i.cps.toList < j.cps.toList)
abbrev oLeA : DR2 := oIS (fun i j => decide (i ≤ j)) fun i j => !decide (j.cps.toList < i.cps.toList)
abbrev oGtA : DR2 := oIS (fun i j => decide (j < i)) fun i j => decide (j.cps.toList < i.cps.toList)
abbrev oGeA : DR2 := oIS (fun i j => decide (j ≤ i)) fun i j => !decide (i.cps.toList < j.cps.toList)
theorem op_ltA : OpR X (compareOp .Lt) (rISV (fun i j => decide (i < j)) fun i j => decide (i.cps.toList < j.cps.toList)) := OpR.or op_lt op_lt_str
theorem op_leA : OpR X (compareOp .LtE) (rISV (fun i j => decide (i ≤ j)) fun i j => !decide (j.cps.toList < i.cps.toList)) := OpR.or op_le op_le_str
theorem op_gtA : OpR X (compareOp .Gt) (rISV (fun i j => decide (j < i)) fun i j => decide (j.cps.toList < i.cps.toList)) := OpR.or op_gt op_gt_str
theorem op_geA : OpR X (compareOp .GtE) (rISV (fun i j => decide (j ≤ i)) fun i j => !decide (i.cps.toList < j.cps.toList)) := OpR.or op_ge op_ge_str
/-- + of ints, of texts -/
def oAddA : DR2 := fun x y k => match x with
  | .str i => kS (fun j => i.length + j.length ≤ sizeLine ∧ k (.str (i ++ j))) y
  | _ => kI (fun i => kI (fun j => k (.int (i + j))) y) x
def rAddV : R2 := fun x y H Q => rI0 (fun i j => .int (i + j)) x y H Q ∨ ∃ i j, x = .str i ∧ y = .str j ∧ i.length + j.length ≤ sizeLine ∧ Q (.str (i ++ j)) H
theorem lift_addA {K : PySem.W.Frag} : Lift2 K oAddA rAddV := fun M H x y v u k R rx ry q z => by
  cases hx : x with
  | str i =>
    subst hx
    obtain ⟨j, rfl, hz, hq⟩ := kS_of q
    exact .inr ⟨i, j, rx, ry, hz, z _ _ hq rfl⟩
  | int i =>
    subst hx
    obtain ⟨j, rfl, hq⟩ := kI_of (show kI (fun j => k (.int (i + j))) y from q)
    exact .inl ⟨i, j, rx, ry, z _ _ hq rfl⟩
  | _ => subst hx; exact q.elim
theorem op_addA : OpR X (binaryOp .Add) rAddV := OpR.or op_add op_add_str
theorem re_addA (ha : RE X a ta) (hb : RE X b tb) : RE X (.BinOp a .Add b pos) (mOp oAddA ta tb) := re_op op_addA lift_addA ha hb
theorem re_sub (ha : RE X a ta) (hb : RE X b tb) : RE X (.BinOp a .Sub b pos) (mOp oSub ta tb) := re_op op_sub (lift_I0 (gOk _)) ha hb
theorem re_mul (ha : RE X a ta) (hb : RE X b tb) : RE X (.BinOp a .Mult b pos) (mOp oMul ta tb) := re_op op_mul (lift_I (gOk _)) ha hb
theorem re_mod (ha : RE X a ta) (hb : RE X b tb) : RE X (.BinOp a .Mod b pos) (mOp oMod ta tb) := re_op op_mod (lift_I (gOk _)) ha hb
theorem re_div (ha : RE X a ta) (hb : RE X b tb) : RE X (.BinOp a .FloorDiv b pos) (mOp oDiv ta tb) := re_op op_fdiv (lift_I (gOk _)) ha hb
theorem re_pow (ha : RE X a ta) (hb : RE X b tb) : RE X (.BinOp a .Pow b pos) (mOp oPow ta tb) := re_op op_pow (lift_I (gOk _)) ha hb
theorem rt_ltA (ha : RE X a ta) (hb : RE X b tb) : RT X (.Compare a [.Lt] [b] pos) (mTest (mOp oLtA ta tb)) := rt_cmp op_ltA lift_IS ha hb (nomark _)
theorem rt_leA (ha : RE X a ta) (hb : RE X b tb) : RT X (.Compare a [.LtE] [b] pos) (mTest (mOp oLeA ta tb)) := rt_cmp op_leA lift_IS ha hb (nomark _)
theorem rt_gtA (ha : RE X a ta) (hb : RE X b tb) : RT X (.Compare a [.Gt] [b] pos) (mTest (mOp oGtA ta tb)) := rt_cmp op_gtA lift_IS ha hb (nomark _)
theorem rt_geA (ha : RE X a ta) (hb : RE X b tb) : RT X (.Compare a [.GtE] [b] pos) (mTest (mOp oGeA ta tb)) := rt_cmp op_geA lift_IS ha hb (nomark _)
theorem re_ltA (ha : RE X a ta) (hb : RE X b tb) : RE X (.Compare a [.Lt] [b] pos) (mOp oLtA ta tb) := re_cmp op_ltA lift_IS ha hb (nomark _)
theorem re_leA (ha : RE X a ta) (hb : RE X b tb) : RE X (.Compare a [.LtE] [b] pos) (mOp oLeA ta tb) := re_cmp op_leA lift_IS ha hb (nomark _)
theorem re_gtA (ha : RE X a ta) (hb : RE X b tb) : RE X (.Compare a [.Gt] [b] pos) (mOp oGtA ta tb) := re_cmp op_gtA lift_IS ha hb (nomark _)
theorem re_geA (ha : RE X a ta) (hb : RE X b tb) : RE X (.Compare a [.GtE] [b] pos) (mOp oGeA ta tb) := re_cmp op_geA lift_IS ha hb (nomark _)
theorem rt_isN {j p2} (ha : RE X a ta) : RT X (.Compare a [.Is] [.Constant .none j p2] pos) (mTest (mOp oIsN ta (mC .non))) := rt_cmp op_isN lift_isN ha re_non (nomark _)
theorem rt_notN {j p2} (ha : RE X a ta) : RT X (.Compare a [.IsNot] [.Constant .none j p2] pos) (mTest (mOp oNotN ta (mC .non))) := rt_cmp op_notN lift_notN ha re_non (nomark _)
theorem re_isN {j p2} (ha : RE X a ta) : RE X (.Compare a [.Is] [.Constant .none j p2] pos) (mOp oIsN ta (mC .non)) := re_cmp op_isN lift_isN ha re_non (nomark _)
theorem re_notN {j p2} (ha : RE X a ta) : RE X (.Compare a [.IsNot] [.Constant .none j p2] pos) (mOp oNotN ta (mC .non)) := re_cmp op_notN lift_notN ha re_non (nomark _)
theorem rt_isBl {j p2 k} (ha : RE X a ta) : RT X (.Compare a [.Is] [.Constant (.bool k) j p2] pos) (mTest (mOp oIsBl ta (mC (.bl k)))) := rt_cmp op_isBl lift_isBl ha re_bl (nomark _)
theorem rt_notBl {j p2 k} (ha : RE X a ta) : RT X (.Compare a [.IsNot] [.Constant (.bool k) j p2] pos) (mTest (mOp oNotBl ta (mC (.bl k)))) := rt_cmp op_notBl lift_notBl ha re_bl (nomark _)
theorem re_isBl {j p2 k} (ha : RE X a ta) : RE X (.Compare a [.Is] [.Constant (.bool k) j p2] pos) (mOp oIsBl ta (mC (.bl k))) := re_cmp op_isBl lift_isBl ha re_bl (nomark _)
theorem re_notBl {j p2 k} (ha : RE X a ta) : RE X (.Compare a [.IsNot] [.Constant (.bool k) j p2] pos) (mOp oNotBl ta (mC (.bl k))) := re_cmp op_notBl lift_notBl ha re_bl (nomark _)
@[simp] def oNeg : DR1 := fun x k => kI (fun i => k (.int (-i))) x
def mUn (r : DR1) (t : ME) : ME := fun e Q W => t e (fun x e1 => r x fun z => Q z e1) W
theorem re_neg (ha : RE X a ta) : RE X (.UnaryOp .USub a pos) (mUn oNeg ta) := ⟨fun W tk => (pe_un un_neg (ha.run W tk)).of fun σ H R ⟨C, fl, e, Q, WD, G, ht, k⟩ => ⟨C, fl, e, _, WD, G, ht, fun d e1 v H1 R1 l r q => by
  obtain ⟨i, rfl, hq⟩ := kI_of q
  exact ⟨i, r, k (.int (-i)) e1 _ H1 R1 l rfl hq⟩⟩⟩
theorem lift_int {K : PySem.W.Frag} : LiftP K oInt (fun xs H Q => (∃ i, xs = [.int i] ∧ Q (.int i) H) ∨ ∃ k, xs = [.bl k] ∧ Q (.int (if k then 1 else 0)) H) := fun C fl σ H e d v k R ck st pk q z => by
  obtain ⟨i, rfl, q1⟩ := kI_of q
  obtain rfl := pk.sc st ck rfl
  exact .inl ⟨i, rfl, z _ _ q1 rfl⟩
end
end DL
set_option maxHeartbeats 2000000
namespace DL
open PySem L2
/-! ### defs as they stand: name, address, parameters, level, promise -/
structure Def (P : Program) (w : World) (K : PySem.W.Frag) (mg : Str → Option Value) (base : Heap) (x : Str) (a : Addr) (ps : List Str) (k : Nat) (sp : SpD) : Prop where
  ex : ∃ fd, FnD P w K mg base k a fd ps sp ∧ Binds K fd ps []
  at_ : mg x = some (.ref a)
  kp : PySem.W.keepIn K (.ref a) = true
structure MDef (P : Program) (w : World) (K : PySem.W.Frag) (mg : Str → Option Value) (base : Heap) (C : Addr) (m : Str) (a : Addr) (ps : List Str) (k : Nat) (sp : SpD) : Prop where
  ex : ∃ fd, FnD P w K mg base k a fd ps sp ∧ Binds K fd ps []
  meth : Meth K C m a
  cls : Cls K C
section
variable {X : Cx} {pos p apos : Pos} {x m : Str} {a Ca : Addr} {ps : List Str} {j k n : Nat} {sp : SpD} {e o : Expr} {es : List Expr} {ua : MA} {t : ME} {g : MG}
theorem re_callD (D : Def X.prog X.w X.K X.mg X.base x a ps j sp) (hr : Room k X.A) (ha : RA X (e :: es) n ua) (hg : Gl X x := by rfl) (hle : j ≤ k := by decide) (hlen : n + 0 = ps.length := by rfl)
    (hdb : (x == ("__debug__" : Str)) = false := by decide) (he : starEach (e :: es) X.env = (false, eval e X.env) :: starEach es X.env := by rfl) (hpl : (backTo pos (starEach es X.env)).any (·.1) = false := by rfl) :
    RE X (.Call (.Name x p) (e :: es) [] pos) (mCall sp [] ua) := by
  obtain ⟨⟨fd, F, hb⟩, hm, hk⟩ := D
  exact re_call F (hr.mono hle) hg hm hk hb .nil .nil ha hlen hdb he hpl
theorem rf_callD (D : Def X.prog X.w X.K X.mg X.base x a ps j sp) (hr : Room k X.A) (ha : RA X (e :: es) n ua) (hg : Gl X x := by rfl) (hle : j ≤ k := by decide) (hlen : n + 0 = ps.length := by rfl)
    (hdb : (x == ("__debug__" : Str)) = false := by decide) (he : starEach (e :: es) X.env = (false, eval e X.env) :: starEach es X.env := by rfl) (hpl : (backTo pos (starEach es X.env)).any (·.1) = false := by rfl) :
    RF X (.Call (.Name x p) (e :: es) [] pos) (mCallF sp [] ua) := by
  obtain ⟨⟨fd, F, hb⟩, hm, hk⟩ := D
  exact rf_call F (hr.mono hle) hg hm hk hb .nil .nil ha hlen hdb he hpl
theorem re_methD {pl : Sem Bool} (D : MDef X.prog X.w X.K X.mg X.base Ca m a ps j sp) (hr : Room k X.A) (he : RE X o t) (ha : RA X (e :: es) n ua) (hle : j ≤ k := by decide) (hlen : n + 0 + 1 = ps.length := by rfl)
    (hst : starEach (e :: es) X.env = (false, eval e X.env) :: starEach es X.env := by rfl) (hpl : (backTo pos (starEach es X.env)).any (·.1) = false := by rfl)
    (ht : eval (.Call (.Attribute o m apos) (e :: es) [] pos) X.env = (do
      let ov ← eval o X.env
      standAt apos.atName
      let (f, first) ← holding [ov] (getMethod ov m pl)
      callWith pos f first (backTo pos (starEach (e :: es) X.env)) (backToKw pos (keywordEach [] X.env))) := by rfl) :
    RE X (.Call (.Attribute o m apos) (e :: es) [] pos) (mMeth Ca m sp [] t ua) := by
  obtain ⟨⟨fd, F, hb⟩, hm, hc⟩ := D
  exact re_meth he hc hm F (hr.mono hle) hb .nil .nil ha hlen hst hpl ht
/-- target = value, the target a tuple -/
def mAsgG (t : ME) (g : MG) : MS := fun MD e W => t e (fun x e1 => g x e1 MD.nx) W
theorem rs_asgG {tg : Expr} (he : RE X e t) (hg : RG X tg g) (hs : swapsWithSole [tg] e pos.line X.env = pure false := by rfl) (hw : swappedStores [tg] e X.env = pure none := by rfl) (h1 : (assignEach [tg] X.env).map (·.2) = [assign tg X.env] := by rfl) : RS X (.Assign [tg] e pos) (mAsgG t g) :=
  ⟨fun W tk => (ps_asg (he.run W tk) hg.run hs hw h1).of fun D σ H ⟨C, e, MD, WD, G, ht, nx, r, bk, ct⟩ => ⟨C, [], e, _, WD, G, ht, fun d e1 v H1 R1 l1 rp q => ⟨C, e1, d, _, G.k, R1, rp, q, fun e2 σ2 R2 l2 q2 => nx e2 σ2 H1 R2 q2⟩⟩⟩
/-- while -/
def mWhile (c : MT) (tb : MS) : MS := fun MD e W => ∃ Iw : Nat → En → Prop, (∃ m, Iw m e) ∧ ∀ m e1, Iw m e1 → c e1 (fun b e2 => if b = true then tb ⟨fun e3 => ∃ m', m' < m ∧ Iw m' e3, MD.rt, MD.nx, fun e3 => ∃ m', m' < m ∧ Iw m' e3⟩ e2 W else MD.nx e2) W
theorem rs_while {c : Expr} {body : List Stmt} {tc : MT} {tb : MS} (hp : PassesOwn (model X.prog X.w) X.A X.env X.xe) (hc : RT X c tc) (hb : RSs X body tb) : RS X (.While c body [] pos) (mWhile tc tb) :=
  ⟨fun W tk => (ps_while hp (hc.run W tk) (hb.run W tk)).of fun D σ H ⟨C, e, MD, WD, G, ⟨Iw, ⟨m0, h0⟩, hs⟩, nx, r, bk, ct⟩ =>
    ⟨fun m σ2 H2 => ∃ e2, StR C [] σ2 H2 e2 ∧ Iw m e2, ⟨m0, e, G.st, h0⟩, fun m σ2 H2 ⟨e2, R2, hi⟩ => ⟨C, [], e2, _, WD, G.to R2, hs m e2 hi, fun b e3 H3 R3 l3 q => by
      cases b with
      | true =>
        rw [if_pos rfl] at q ⊢
        exact ⟨fun σ4 H4 => ∃ m', m' < m ∧ ∃ e4, StR C [] σ4 H4 e4 ∧ Iw m' e4, fun σ4 H4 ⟨m', hm, e4, R4, h4⟩ => ⟨m', hm, e4, R4, h4⟩, C, e3, _, WD, G.to R3, q, fun e4 σ4 H4 R4 ⟨m', hm, h4⟩ => ⟨m', hm, e4, R4, h4⟩, r, nx, fun e4 σ4 H4 R4 ⟨m', hm, h4⟩ => ⟨m', hm, e4, R4, h4⟩⟩
      | false =>
        rw [if_neg (by decide)] at q ⊢
        exact nx e3 σ2 H3 R3 q⟩⟩⟩
end
end DL
set_option maxHeartbeats 2000000
namespace DL
open PySem L2
section
variable {X : Cx} {pos p apos : Pos} {x : Str} {a b e : Expr} {es : List Expr} {ta tb : ME} {ua : MA} {j k n : Nat} {sp : SpD} {Ca f : Addr} {ps : List Str}
/-- a constant of the module -/
theorem re_glob {d : D} (hg : Gl X x) (h : ∃ u, X.mg x = some u ∧ RelV (toV d) u) (sc : isSc d = true) (hd : (x == ("__debug__" : Str)) = false := by decide) : RE X (.Name x pos) (mC d) := by
  obtain ⟨u, hm, r⟩ := h
  exact re_c (pe_glob hg hm r hd) fun _ _ => toV_rep sc
/-- s.count(t) -/
def mCount (ta tb : ME) : ME := fun e Q W => ta e (fun x e1 => kS (fun i => tb e1 (fun y e2 => kS (fun j => Q (.int (Txt.count i j)) e2) y) W) x) W
theorem re_count (ha : RE X a ta) (hb : RE X b tb) (hs : starEach [b] X.env = [(false, eval b X.env)] := by rfl) (hbase : attributeBase a "count" X.env (eval a X.env) = eval a X.env := by rfl) (hline : (apos.endLine == pos.line) = true := by rfl) :
    RE X (.Call (.Attribute a "count" apos) [b] [] pos) (mCount ta tb) :=
  ⟨fun W tk => (pe_m1 F.slot_str_count F.type_str_count mt_count (ha.run W tk) (hb.run W tk) hs hbase hline).of fun σ H R ⟨C, fl, e, Q, WD, G, ht, k⟩ => ⟨C, fl, e, _, WD, G, ht, fun x e1 v H1 R1 l1 r1 q1 => by
    obtain ⟨i, rfl, q1⟩ := kS_of q1
    obtain rfl : v = .str i := r1
    refine ⟨⟨i, rfl⟩, C, fl, e1, _, WD, G.to R1, q1, fun y e2 u H2 R2 l2 r2 q2 => ?_⟩
    obtain ⟨j, rfl, q3⟩ := kS_of q2
    obtain rfl : u = .str j := r2
    exact ⟨i, j, rfl, rfl, k (.int (Txt.count i j)) e2 _ H2 R2 (l1.trans l2) rfl q3⟩⟩⟩
end
end DL
set_option maxHeartbeats 4000000
namespace DL
open PySem PySem.Spec PySem.W PySem.Calls PyProof.Rows L2
/-! ### an own exception whose __init__ says super().__init__('..') and self.f = x -/
structure SupX (P : Program) (K : PySem.W.Frag) (mg : Str → Option Value) (C cc cda : Addr) : Prop where
  cell : ∃ cl cld csl, K.lookup cc = some ⟨cl, cld, .cell (some (.ref C)), csl⟩
  code : ∃ ccl cdd vs ccs file tf, K.lookup cda = some ⟨ccl, cdd, .fields vs, ccs⟩ ∧ vs[2]? = some (.str file tf) ∧ ((P.main.file : Str) == file) = true
  op : nsIn K cStatics "thirdparty.any" = some none
  sm : ks_superIn K C C "__init__" = some (some (.builtin "ValueError.__init__"))
  sub : subIn K (.ref C) (.type "ValueError") = some true
  top : (P.main.scope.names.lookup ("super" : Str)).isSome = false
  ms : mg "super" = none
section
variable {P : Program} {w : World} {K : PySem.W.Frag} {mg : Str → Option Value} {base : Heap} {A : Around} {R : Result → Shared → Prop} {s : Shared} {f C cc cda a t0 : Addr} {name qual px fld txt : Str} {params : Arguments} {body : List Stmt} {scope : Scope} {dV kV doc pm ct oc : Value} {an od : Option Addr} {osl : Array (Option Value)} {p0 p1 p2 p3 p4 p5 p6 p7 p8 p9 : Pos} {args : Args} {u : Value} {jj : Nat}
theorem call_mw {M : Addr} {E : Value → Shared → Prop} {h : Heap} {g : Array GenState} {d : Drawn} {t : Nat} {os : OsState} {x t0 : Addr} {rest : List Value} {Q : Value → Shared → Prop} (T : OexC K C) (X : K.In h)
    (he : h.get? x = some (HandSPX.excO C t0)) (hu : h.get? M = some (kxs_mw "ValueError.__init__" x)) (hz : rest.length ≤ sizeLine)
    (hq : ∀ h' t1, (∀ b o, b ≠ x → h.get? b = some o → h'.get? b = some o) → h'.get? x = some (HandSPX.excO C t1) → Q .none ⟨h', g, d, t, os⟩) :
    wpAny (model P w) A (call (.ref M) rest) Q E ⟨h, g, d, t, os⟩ := by
  obtain ⟨nm, q, N, bs, bm, sn, sub, ab, col, dd, k0, k1, k2, k3, k5, hC, hbm⟩ := T.cls
  refine wpAny_call (codeAny_of_tree ?_)
  show wpAny _ A.in1 (callAny (.ref M) ⟨rest, []⟩) _ _ _
  simp only [callAny]
  refine wpAny_bind (wpAny_load hu ?_)
  simp only [kxs_mw, show (Value.type "method-wrapper" == Value.type "method" || Value.type "method-wrapper" == Value.type "builtin_function_or_method" || Value.type "method-wrapper" == Value.type "method-wrapper") = true by decide, if_true]
  refine KFB.if_so (by decide) ?_
  refine wpAny_bind (check_bound_init F.excBase_ValueError.toExcCallFacts (X _ _ hC) he rfl ?_)
  refine wpAny_bind (wpAny_pure (wpAny_pure ?_))
  refine ⟨plainId_quiet F.excBase_ValueError.init.plain _, codeAny_builtin F.excBase_ValueError.initEntry ?_⟩
  rw [Around.under_plainId F.excBase_ValueError.init.plain _]
  wp_walk
  refine hq _ h.objs.size (fun b o hb ho => ?_) ?_
  · rw [Heap.get?_update_other _ _ (Ne.symm hb)]
    exact Heap.get?_push_of_some _ ho
  · rw [Heap.get?_update_self _ (Heap.get?_push_of_some _ he) rfl]
    rfl
theorem initX_core (SX : SupX P K mg C cc cda) (T : OexC K C) (hno : findIn K (.ref C) fld = some none)
    (lk : K.lookup f = some ⟨oc, od, .func (ksFn name qual params body scope dV kV doc pm an (.ref cda) ct cc), osl⟩) (hcd : codeIn K (.ref cda) qual = true)
    (hbody : body = [.Expr (.Call (.Attribute (.Call (.Name "super" p0) [] [] p1) "__init__" p2) [.Constant (.str txt) jj p3] [] p4) p5, .Assign [.Attribute (.Name "self" p6) fld p7] (.Name px p8) p9])
    (he : ∀ env : Env, eval (.Call (.Attribute (.Call (.Name "super" p0) [] [] p1) "__init__" p2) [.Constant (.str txt) jj p3] [] p4) env = (do
      let ov ← attributeBase (.Call (.Name "super" p0) [] [] p1) "__init__" env (eval (.Call (.Name "super" p0) [] [] p1) env)
      standAt p2.atName
      let (f, first) ← holding [ov] (getMethod ov "__init__" (do return (← importBound (.Call (.Name "super" p0) [] [] p1) env).getD true))
      callWith p4 f first (backTo p4 (starEach [.Constant (.str txt) jj p3] env)) []))
    (hpar : (params.posonlyargs ++ params.args).head?.map (·.arg) = some "self") (hks : scope.names.lookup ("super" : Str) = some .globalImplicit) (hkc : scope.names.lookup ("__class__" : Str) = some .free)
    (hka : scope.names.lookup ("self" : Str) = some .local) (hkx : scope.names.lookup px = some .local) (hpx : px ≠ "self") (hpd : (px == ("__debug__" : Str)) = false)
    (hcell : ∀ x ∈ scope.names, x.2 ≠ .cell) (hco : scope.isCoroutine = false) (hgen : scope.isGenerator = false) (hk : scope.kind = .function)
    (KX : K.In s.heap) (GL : s.heap.Ns mainGlobals mg) (BL : ∃ mb, s.heap.Ns builtinsNs mb ∧ ∀ x : Str, x ≠ "__name__" → mb x = bootBuiltins x) (lim : s.heap.NoLimit) (hroom : A.depth < recursionLimit)
    (hb : BindsTo s (ksFn name qual params body scope dV kV doc pm an (.ref cda) ct cc) args [("self", .ref a), (px, u)]) (ha : s.heap.get? a = some (HandSPX.excO C t0)) (hKa : ∀ b o, K.lookup b = some o → b ≠ a)
    (hR : ∀ h' tk' dx t1, (∀ b o, b ≠ a → s.heap.get? b = some o → h'.get? b = some o) → s.heap.objs.size ≤ dx → dx ≠ a → h'.get? a = some { cls := .ref C, dict := some dx, data := .fields #[.ref t1, .none, .none, .none, .bool false, .none] } →
      h'.Ns1 dx (fun y => if y = fld then some u else none) → R (.ok (.ret .none)) { s with heap := h', toks := tk' }) :
    codeAny (model P w) A (.call (.ref f) args) R s := by
  obtain ⟨cl, cld, csl, hcell'⟩ := SX.cell
  obtain ⟨ccl, cdd, vs, ccs, file, tf, hcode, hvs, hfile⟩ := SX.code
  obtain ⟨nm, q, N, bs, bm, sn, sub, ab, col, dd, k0, k1, k2, k3, k5, hC, hbm⟩ := T.cls
  obtain ⟨ar, har, harn⟩ : ∃ ar, (params.posonlyargs ++ params.args).head? = some ar ∧ ar.arg = "self" := by
    cases z : (params.posonlyargs ++ params.args).head? with
    | none => rw [z] at hpar; cases hpar
    | some ar => rw [z] at hpar; exact ⟨ar, rfl, Option.some.inj hpar⟩
  have hcl : PySem.W.clsIn K C = some { name := nm, bases := bs, mro := .ref C :: bm, ns := N, qualname := q, hasDict := true, slotNames := sn, subclasses := sub, abstract := ab, collection := col, hasDel := false } := by unfold PySem.W.clsIn; rw [hC] <;> rfl
  refine ks_codeAny_call_defAt hroom (KX _ _ lk) rfl lim (codeRec_of KX hcd) rfl hb hcell (fun x hx => ?_) (fun h₀ hns kk => ?_) hco hgen hk
  · rcases List.mem_cons.mp hx with rfl | hx
    · exact hka
    rcases List.mem_cons.mp hx with rfl | hx
    · exact hkx
    · cases hx
  have X0 : K.In h₀ := KX.keeps kk
  have l1 : (List.reverse [(("self" : Str), Value.ref a), (px, u)]).lookup ("self" : Str) = some (.ref a) := by
    show ([(px, u), (("self" : Str), Value.ref a)] : List (Str × Value)).lookup ("self" : Str) = _
    have e1 : ((("self" : Str)) == px) = false := by simpa using (Ne.symm hpx)
    simp only [List.lookup, e1, beq_self_eq_true]
  have l2 : (List.reverse [(("self" : Str), Value.ref a), (px, u)]).lookup px = some u := by
    show ([(px, u), (("self" : Str), Value.ref a)] : List (Str × Value)).lookup px = _
    simp only [List.lookup, beq_self_eq_true]
  have ha0 := kk _ _ ha
  have haC : a ≠ C := fun z => by
    have y := KX _ _ hC
    rw [← z, ha] at y
    cases y
  have haL : s.heap.objs.size ≠ a := fun z => absurd (Heap.lt_size ha) (by rw [z]; exact Nat.lt_irrefl _)
  subst hbody
  refine ks_wpAt_execs_cons (ks_wpAt_Expr_any (ks_wpAt_MethodCall (ks_wpAt_super_base (f := f) (cc := cda) (ar := ar) (vs := vs) (file := file) (tf := tf) hks hkc (by decide) rfl (X0 _ _ lk) rfl har rfl (X0 _ _ hcode) rfl hvs hfile SX.top ?_) (he _)) (by show (scope.kind == .module && _) = false; rw [hk]; rfl))
  obtain ⟨mb, b1, b2⟩ := BL
  refine ks_loadName_global hk hks (loadGlobal_builtin (GL.keeps kk) SX.ms (b1.keeps kk) ((b2 "super" (by decide)).trans (by decide +kernel : bootBuiltins "super" = some (.type "super"))) ⟨rfl, ?_⟩)
  refine wpAny_loadName_free hk hkc (c := cc) rfl ⟨_, X0 _ _ hcell', rfl⟩ ?_
  rw [harn]
  refine wpAny_loadName_local hk hka hns l1 ?_
  obtain ⟨sh, g, d, tk, os⟩ := s
  refine ks_wpAny_isType_cls (X0 _ _ hC) rfl ⟨rfl, ?_⟩
  refine ks_wpAny_call_super (X0 _ _ hC) rfl ha0 rfl (fun c e => by cases e) (looks_mroIn X0 (by unfold mroIn; rw [hcl]; simp)) (fun h1 e1 k1 => ?_)
  have X1 : K.In h1 := X0.keeps k1
  have I1 : InstAt h1 a (HandSPX.excO C t0) C none := ⟨k1 _ _ ha0, rfl, rfl, trivial⟩
  have sm := SX.sm
  unfold ks_superIn at sm
  rw [hcl] at sm
  refine kxs_getMethod kxs_ValueError e1 (looks_opaque X1 SX.op) (l₀ := .ref C :: bm) (fun A Q E s k q => wpAny_bind ((looks_clsIn X1 hcl) A _ E s k (wpAny_pure q))) rfl X1 sm (I1.type.andThen (looks_subIn X1 SX.sub)) haC (by decide) ?_
  refine kxs_callWith (i := "ValueError.__init__") (x := a) rfl (evalArgs_plain (spliced_cons (wpAny_Constant_str (k := jj) (pos := p3) (spliced_nil ?_))))
  refine ⟨Heap.get?_push_at rfl rfl, ?_⟩
  refine call_mw T (X1.keeps fun b o e => Heap.get?_push_of_some _ e) (Heap.get?_push_of_some _ (k1 _ _ ha0)) (Heap.get?_push_at rfl rfl) (by rw [sizeLine_eq]; simp) (fun h2 t1 k2 e2 => ?_)
  have X2 : K.In h2 := fun b o e => k2 b o (hKa b o e) (Heap.get?_push_of_some _ (X1 b o e))
  have n2 : h2.Ns sh.objs.size (fun x => List.lookup x [(("self" : Str), Value.ref a), (px, u)].reverse) := by
    obtain ⟨oL, es, ep, hL, r⟩ := hns
    exact ⟨oL, es, ep, k2 _ _ haL (Heap.get?_push_of_some _ (k1 _ _ hL)), r⟩
  refine ks_wpAt_execs_cons (ks_wpAt_Assign_Attr (wpAt_of_wpAny (ESX.ldL n2 l2 (ESX.ldL n2 l1 ?_ hk hka) hk hkx hpd)) (by rfl))
  refine set_plain X2 (ox := HandSPX.excO C t1) (od := none) ⟨e2, rfl, rfl, trivial⟩ T.sa ?_
  refine HandSPX.exc_osa X2 e2 hcl (show HandSPX.refsVE (.ref C :: bm) = true from hbm) rfl hno (fun h3 tk3 dx k3 dn dne hx hn => ?_)
  refine wpAt_of_wpAny (wpAny_pure ?_)
  exact hR h3 _ dx t1 (fun b o hb e => k3 b o hb (k2 b o hb (Heap.get?_push_of_some _ (k1 _ _ (kk _ _ e))))) (Nat.le_trans (Nat.le_of_lt (Heap.lt_size (show h2.get? sh.objs.size = _ from n2.choose_spec.choose_spec.choose_spec.1))) dn) dne hx hn
end
end DL
set_option maxHeartbeats 4000000
namespace DL
open PySem PySem.Spec PyProof.Rows L2
/-- the promise of such an __init__ -/
def spX (C : Addr) (fld : Str) : Sp := fun vs H Q _ => ∃ a y, vs = [.ref a, y] ∧ H a = some (exo a C none) ∧ ∀ dx, H dx = none → dx ≠ a → Q .non (upd (upd H dx (exd dx [(fld, y)])) a (exo a C (some dx)))
section
variable {P : Program} {w : World} {K : PySem.W.Frag} {mg : Str → Option Value} {base : Heap} {CX : CXT} {k : Nat} {f C cc cda : Addr} {name qual px fld txt : Str} {params : Arguments} {body : List Stmt} {scope : Scope} {dV kV doc pm ct oc : Value} {an od : Option Addr} {osl : Array (Option Value)} {p0 p1 p2 p3 p4 p5 p6 p7 p8 p9 : Pos} {jj : Nat}
/-- what the text says of the __init__ -/
structure InitTx (body : List Stmt) (params : Arguments) (scope : Scope) (px fld : Str) : Prop where
  bd : ∃ p0 p1 p2 p3 p4 p5 p6 p7 p8 p9 txt jj, body = [.Expr (.Call (.Attribute (.Call (.Name "super" p0) [] [] p1) "__init__" p2) [.Constant (.str txt) jj p3] [] p4) p5, .Assign [.Attribute (.Name "self" p6) fld p7] (.Name px p8) p9] ∧
    (∀ env : Env, eval (.Call (.Attribute (.Call (.Name "super" p0) [] [] p1) "__init__" p2) [.Constant (.str txt) jj p3] [] p4) env = (do
      let ov ← attributeBase (.Call (.Name "super" p0) [] [] p1) "__init__" env (eval (.Call (.Name "super" p0) [] [] p1) env)
      standAt p2.atName
      let (f, first) ← holding [ov] (getMethod ov "__init__" (do return (← importBound (.Call (.Name "super" p0) [] [] p1) env).getD true))
      callWith p4 f first (backTo p4 (starEach [.Constant (.str txt) jj p3] env)) []))
  par : (params.posonlyargs ++ params.args).head?.map (·.arg) = some "self"
  ks : scope.names.lookup ("super" : Str) = some .globalImplicit
  kc : scope.names.lookup ("__class__" : Str) = some .free
  ka : scope.names.lookup ("self" : Str) = some .local
  kx : scope.names.lookup px = some .local
  pxs : px ≠ "self"
  pd : (px == ("__debug__" : Str)) = false
  cell : ∀ x ∈ scope.names, x.2 ≠ .cell
  co : scope.isCoroutine = false
  gen : scope.isGenerator = false
  kind : scope.kind = .function
theorem initX_ok (SX : SupX P K mg C cc cda) (T : OexC K C) (hno : PySem.W.findIn K (.ref C) fld = some none)
    (lk : K.lookup f = some ⟨oc, od, .func (PySem.W.ksFn name qual params body scope dV kV doc pm an (.ref cda) ct cc), osl⟩) (hcd : PySem.W.codeIn K (.ref cda) qual = true) (X : InitTx body params scope px fld) :
    FnOk P w K mg base CX k f (PySem.W.ksFn name qual params body scope dV kV doc pm an (.ref cda) ct cc) ["self", px] (spX C fld) := by
  refine ⟨fun vs H Q E ⟨a, y, e, _⟩ => by rw [e]; rfl, fun A outer s H args us vs Q E hr e0 hb r ⟨a, y, ev, ea, hq⟩ => ?_⟩
  subst ev
  cases r with
  | @cons _ u0 _ ur ra r2 =>
  cases r2 with
  | @cons _ u1 _ ur2 ry r3 =>
  cases r3
  obtain rfl : u0 = Value.ref a := ra
  obtain ⟨p0, p1, p2, p3, p4, p5, p6, p7, p8, p9, txt, jj, hbd, he⟩ := X.bd
  obtain ⟨t1, ho⟩ := exo_at e0.hok ea
  have kb : ∀ b o, base.get? b = some o → s.heap.get? b = some o := fun b o e => (e0.bs b o e).1
  obtain ⟨mb, b1, b2⟩ := e0.mod.blt
  refine initX_core SX T hno lk hcd hbd he X.par X.ks X.kc X.ka X.kx X.pxs X.pd X.cell X.co X.gen X.kind (e0.mod.kin.keeps kb) (e0.mod.glob.keeps kb) ⟨mb, b1.keeps kb, b2⟩ (e0.mod.nolimit.keeps kb) hr.depth hb ho (fun b o e z => ?_) (fun h' tk' dx t2 kp dn dne hx hn => ?_)
  · have := (e0.bs b o (e0.mod.kin b o e)).2
    rw [z, ea] at this
    cases this
  · have hnd : H dx = none := e0.hok.fresh dn
    have nd : ∀ {b : Addr} {o : Obj}, s.heap.get? b = some o → b ≠ dx := fun {b o} q => Nat.ne_of_lt (Nat.lt_of_lt_of_le (Heap.lt_size q) dn)
    have na : ∀ {b : Addr}, H b = none → b ≠ a := fun {b} n z => by
      rw [z, ea] at n
      cases n
    refine ⟨.non, _, rfl, e0.bare, {
      keep := fun b o q n _ _ => kp b o (na n) q
      slot := fun b o q n _ _ => ⟨o.slots, kp b o (na n) q⟩
      free := fun b o q n _ => by rw [upd_ne (na n), upd_ne (nd q)]; exact n
      there := fun b o q _ => by
        by_cases hb : b = a
        · exact ⟨_, by rw [hb]; exact hx⟩
        · exact ⟨o, kp b o hb q⟩
      tups := fun b xs q => by rw [upd_ne (at_ne ea q exo_tup), upd_ne (ne_of_none q hnd)]; exact q
      frzs := fun b o v q => by rw [upd_ne (at_ne ea q exo_frz), upd_ne (ne_of_none q hnd)]; exact q
      tbls := fun b ps q => ⟨#[], by rw [upd_ne (at_ne ea q exo_tbl), upd_ne (ne_of_none q hnd), q]; simp⟩ }, fun b o q => ?_, rfl, hq dx hnd dne⟩
    by_cases hb : b = a
    · subst hb
      rw [upd_same] at q
      cases q
      exact exo_ok hx
    · rw [upd_ne hb] at q
      by_cases hd : b = dx
      · subst hd
        rw [upd_same] at q
        cases q
        exact exd_ok hn (relO_put (fs := []) ry fun g => True.intro)
      · rw [upd_ne hd] at q
        exact (e0.hok b o q).stay (fun c v hc z => kp c v (by
            rcases hc with hc | hc
            · rw [hc]
              exact hb
            · exact at_ne ea hc exo_own) z)
          (fun c hc => by rw [upd_ne (at_ne ea hc exo_own), upd_ne (ne_of_none hc hnd)]; exact hc) (fun c xs hc => by rw [upd_ne (at_ne ea hc exo_tup), upd_ne (ne_of_none hc hnd)]; exact hc)
end
/-! ### raise C(e) -/
def mRaise (C : Addr) (fld : Str) (t : ME) : MS := fun _ e W => t e (fun d e1 => W C [(fld, d)] e1) W
/-- an own exception class at C with the field fld -/
structure XDef (P : Program) (w : World) (K : PySem.W.Frag) (mg : Str → Option Value) (base : Heap) (x : Str) (C : Addr) (fld : Str) : Prop where
  oex : OexC K C
  mgx : mg x = some (.ref C)
  db : (x == ("__debug__" : Str)) = false
  ini : ∃ (fI : Addr) (fd : FuncData) (px : Str), PySem.W.findIn K (.ref C) "__init__" = some (some (.ref fI)) ∧ PySem.W.typeIn K (.ref fI) = some (.type "function") ∧ Binds K fd ["self", px] [] ∧ ∀ (CX : CXT) (k : Nat), FnOk P w K mg base CX k fI fd ["self", px] (spX C fld)
section
variable {X : Cx} {x fld : Str} {C : Addr} {e : Expr} {p pos pos' : Pos} {t : ME} {k : Nat}
theorem rs_raise (D : XDef X.prog X.w X.K X.mg X.base x C fld) (hc : X.calm = true) (hr : Room k X.A) (hg : Gl X x) (he : RE X e t) (hs : starEach [e] X.env = (false, eval e X.env) :: starEach [] X.env := by rfl) (h0 : 0 < k := by decide) :
    RS X (.Raise (some (.Call (.Name x p) [e] [] pos)) none pos') (mRaise C fld t) := ⟨fun W tk => by
  obtain ⟨fI, fd, px, h1, h2, h3, h4⟩ := D.ini
  obtain ⟨k, rfl⟩ : ∃ j, k = j + 1 := ⟨k - 1, by omega⟩
  refine (ps_raise hc tk (pmk_oex D.oex h1 h2 (h4 (fun _ _ _ _ _ _ => False) k) hr h3 .nil (fun _ _ _ _ _ _ _ z => False.elim z) hg D.mgx (pa_cons (he.run W tk) pa_nil hs) D.db hs rfl)).of fun Dd σ H ⟨Cn, en, MD, WD, G, ht, q1, q2, q3, q4⟩ => ?_
  refine ⟨Cn, [], en, _, WD, G, ht, fun d e1 v H1 R1 l1 rv q => ⟨by show 1 ≤ 1000; omega, fun a ha => ⟨a, v, rfl, upd_same, fun dx hdx hne => ⟨rfl, dx, [(fld, v)], upd_same, by rw [upd_ne hne]; exact upd_same, by rw [upd_ne hne] at hdx; exact hdx, ?_⟩⟩⟩⟩
  rw [upd_ne hne] at hdx
  have eH : upd (del (upd (upd (upd H1 a (exo a C none)) dx (exd dx [(fld, v)])) a (exo a C (some dx))) a) dx (.xd [(fld, v)]) = upd H1 dx (.xd [(fld, v)]) := by
    funext b
    by_cases hb : b = dx
    · rw [hb, upd_same, upd_same]
    · rw [upd_ne hb, upd_ne hb]
      by_cases hb2 : b = a
      · rw [hb2, del_same, ha]
      · rw [del_ne hb2, upd_ne hb2, upd_ne hb, upd_ne hb2]
  rw [eH]
  obtain ⟨R2, l2⟩ := R1.heap (upd_keep (o := .xd [(fld, v)]) hdx)
  exact G.w C dx [(fld, d)] _ σ _ e1 R2 upd_same ⟨_, _, rfl, ⟨rfl, by rw [G.k]; exact rv.later l2⟩, rfl⟩ q⟩
end
end DL
set_option maxHeartbeats 4000000
namespace DL
open PySem PySem.Spec PyProof.Rows L2
/-! ### try: body, except C as e: suite -/
def W0' : WE := fun _ _ _ => False
def mTry (K : PySem.W.Frag) (i : Nat) (Cx : Addr) (tb : MS) (ts : Addr → Addr → Addr → MS) : MS := fun M e W => tb M e (fun Ca fs en => ∃ b, PySem.W.subIn K (.ref Ca) (.ref Cx) = some b ∧
  (b = true → ∀ a dd, ts a dd Ca { nx := fun e' => M.nx (e'.set i .un), rt := M.rt, bk := fun e' => M.bk (e'.set i .un), ct := fun e' => M.ct (e'.set i .un) } (en.set i (.d (.exc a dd Ca fs))) W0') ∧ (b = false → W Ca fs en))
/-- a class that an except clause names -/
structure ECls (K : PySem.W.Frag) (C : Addr) : Prop where
  h1 : PySem.W.subIn K (.ref C) (.type "BaseException") = some true
  h2 : PySem.W.hasDictIn K C = true
  h3 : PySem.W.typeIn K (.ref C) = some (.type "type")
section
variable {X : Cx} {x n : Str} {Cx : Addr} {i : Nat} {body suite : List Stmt} {b₀ : Stmt} {np pos pos' : Pos} {tb : MS} {ts : Addr → Addr → Addr → MS}
theorem rs_try (E : ECls X.K Cx) (hs : X.stack = X.env :: X.outer) (hf : X.env.frame = some X.env.locals) (hN : X.N.Nodup) (hi : X.N[i]? = some n) (hln : X.env.kindOf n = some .local) (hg : Gl X x) (hdb : (x == ("__debug__" : Str)) = false) (hm : X.mg x = some (.ref Cx))
    (hb : ∀ (pn : List (Addr × Obj)) (xe : Value → Shared → Prop), PassesOwn (model X.prog X.w) X.A X.env xe → RSs (X.tr pn xe) body tb)
    (hsu : ∀ (a : Addr) (oe : Obj) (Ca dd : Addr) (pn : List (Addr × Obj)), Zc (.ref Ca) (some dd) oe → (∃ vs, oe.data = .fields vs) → RSs (X.suite a ((a, oe) :: pn)) (b₀ :: suite) (ts a dd Ca)) :
    RS X (.Try body [.ExceptHandler (some (.Name x np)) (some n) (b₀ :: suite) pos'] [] [] pos) (mTry X.K i Cx tb ts) := ⟨fun W tk => by
  let tsV : Addr → Value → Option Addr → TS := fun a cls d D σ H => ∃ Ca dd, cls = .ref Ca ∧ d = some dd ∧ cS X.K (fun _ _ _ _ => False) (ts a dd Ca) D σ H
  refine (ps_try_as (c := .ref Cx) (tb := fun W => cS X.K W tb) (ts := tsV) hs hf hN hi hln ⟨hg, hdb, .inl hm⟩ tk (fun W' pn xe tk' po => (hb pn xe po).run W' tk') (fun a oe cls d pn hz hfd => ?_)).of fun D σ H ⟨C, e, MD, WD, G, ht, k1, k2, k3, k4⟩ => ?_
  · refine ⟨fun pins s σ H D I h => ?_⟩
    obtain ⟨Ca, dd, rfl, rfl, h⟩ := h
    exact ((hsu a oe Ca dd pn hz hfd).run (fun _ _ _ _ => False) (fun u s xx => by
      obtain ⟨_, _, _, _, _, _, _, _, _, _, _, _, _, _, _, _, w⟩ := xx
      exact w.elim)).run pins s σ H D I h
  · refine ⟨C, e, MD, _, ⟨G.k, G.ok, G.st, fun Ca dd fs vs σ' H' en R hdd rf ⟨b, hb1, hy, hn⟩ => ⟨b, PySem.W.exm_ref E.h1 E.h2 E.h3 hb1, fun hbt a ha => ⟨Ca, dd, rfl, rfl, C, _, _, _, ⟨G.k, G.ok, R.setD (x := .exc a dd Ca fs) (v := .ref a) ⟨rfl, vs, hdd, rf⟩, fun _ _ _ _ _ _ _ _ _ _ z => z.elim⟩, hy hbt a dd, ?_, ?_, ?_, ?_⟩, fun hbf => G.w Ca dd fs vs σ' H' en R hdd rf (hn hbf)⟩⟩, ht, k1, k2, k3, k4⟩
    · exact fun e' σ2 H2 R2 q => k1 _ _ _ (R2.setU i none) q
    · exact fun s e' v σ2 H2 ro q => k2 _ _ _ _ _ ro q
    · exact fun e' σ2 H2 R2 q => k3 _ _ _ (R2.setU i none) q
    · exact fun e' σ2 H2 R2 q => k4 _ _ _ (R2.setU i none) q⟩
end
/-! ### what the suite asks of the exception -/
def kX (a dd : Addr) (k : Addr → List (Str × D) → Prop) : D → Prop
  | .exc a' dd' C fs => a' = a ∧ dd' = dd ∧ k C fs
  | _ => False
theorem kX_of {a dd : Addr} {k : Addr → List (Str × D) → Prop} {x : D} (h : kX a dd k x) : ∃ C fs, x = .exc a dd C fs ∧ k C fs := by
  cases x <;> first | exact h.elim | skip
  obtain ⟨rfl, rfl, h⟩ := h
  exact ⟨_, _, rfl, h⟩
def mXfld (a dd Ca Cx : Addr) (f : Str) (t : ME) : ME := fun e Q W => t e (fun x e1 => kX a dd (fun _ fs => Ca = Cx ∧ ∃ d, fs.lookup f = some d ∧ Q d e1) x) W
/-- an instance of the class, asked by isinstance -/
structure XIs (K : PySem.W.Frag) (C : Addr) : Prop where
  cl : (PySem.W.clsIn K C).isSome = true
  ga : PySem.W.findIn K (.ref C) "__getattribute__" = some (some (.builtin "BaseException.__getattribute__"))
  gt : PySem.W.findIn K (.ref C) "__getattr__" = some none
  sub : PySem.W.subIn K (.ref C) (.type "BaseException") = some true
  ha : PySem.W.findIn K (.ref C) "__class__" = some (some (.builtin "object.__class__"))
  hn : PySem.W.specialIn K (.builtin "object.__class__") "__get__" = some (some (.builtin "getset_descriptor.__get__"))
  ht : PySem.W.takesIn K (.builtin "object.__class__") = some true
  hm : PySem.W.mroIn K C (.type "object") = some true
def mXis (K : PySem.W.Frag) (a dd Ca Cx : Addr) (cv : Value) (t : ME) : ME := fun e Q W => Ca = Cx ∧ t e (fun x e1 => kX a dd (fun _ _ => ∃ b, PySem.W.kitOne K (.ref Cx) cv = some b ∧ Q (.bl b) e1) x) W
def rIsX (K : PySem.W.Frag) (D a dd : Addr) : List V → Hp → VK → Prop := fun xs H Q => ∃ (c : V) (cv : Value) (b : Bool) (fs : List (Str × V)), xs = [.ref a, c] ∧ H dd = some (.xd fs) ∧ (∀ u, RelV c u → u = cv) ∧ PySem.W.kitOne K (.ref D) cv = some b ∧ Q (.bl b) H
section
variable {X : Cx} {a dd Ca Cx : Addr} {oe : Obj} {pn : List (Addr × Obj)} {e : Expr} {pos p p2 : Pos} {t : ME} {f : Str}
theorem re_xfld (T : XfC X.K Cx) (hno : PySem.W.findIn X.K (.ref Cx) f = some none) (hz : Zc (.ref Ca) (some dd) oe) (hf : ∃ vs, oe.data = .fields vs) (he : RE (X.suite a ((a, oe) :: pn)) e t) (hb : attributeBase e f X.env (eval e X.env) = eval e X.env := by rfl) :
    RE (X.suite a ((a, oe) :: pn)) (.Attribute e f pos) (mXfld a dd Ca Cx f t) := ⟨fun W tk => (pe_xf (cls := .ref Ca) (d := some dd) T hno hz hf (he.run W tk) hb).of fun σ H R ⟨C, fl, en, Q, WD, G, ht, k⟩ => ⟨C, fl, en, _, WD, G, ht, fun x e1 v H1 R1 l1 rx q => by
    obtain ⟨C', fs, rfl, hC, d, hl, hq⟩ := kX_of q
    obtain ⟨rfl, vs, hdd, rf⟩ := rx
    obtain ⟨u, hu, ru⟩ := (RepF.lookup (f := f) rf).2 d hl
    exact ⟨rfl, by rw [hC], dd, vs, u, rfl, hdd, hu, k d e1 u H1 R1 l1 ru hq⟩⟩⟩
theorem call_isX (T : XIs X.K Cx) (hz : Zc (.ref Cx) (some dd) oe) (hf : ∃ vs, oe.data = .fields vs) : CallR (X.suite a ((a, oe) :: pn)) (.builtin "isinstance") (rIsX X.K Cx a dd) := by
  intro pins s σ H xs us Q I r h
  obtain ⟨c, cv, b, fs, rfl, hdd, hcv, e, q⟩ := h
  cases r with
  | cons rx rr =>
    cases rr with
    | cons rt rr =>
      cases rr
      cases rx
      have ec := hcv _ rt
      subst ec
      obtain ⟨hget, _⟩ := I.pin (a, oe) (List.mem_append.mpr (.inl List.mem_cons_self))
      obtain ⟨vs, hv⟩ := hf
      have hx : ObjOk X.prog X.w H s.heap dd (.xd fs) := I.hok dd _ hdd
      obtain ⟨mA, hns, hr⟩ := hx
      obtain ⟨od, ho, hl⟩ := lookIn_ns hns
      have J : PySem.W.InstAt s.heap a oe Cx (some od) := ⟨hget, hz.1, by unfold PySem.W.notCls; rw [hv] <;> rfl, by rw [hz.2]; exact ho⟩
      exact PySem.W.kia_one (PySem.W.kitx_exc T.cl T.ga T.gt T.sub T.ha T.hn T.ht T.hm) I.kIn J e (fun z => nomatch z) fun tk => ⟨.bl b, H, I.kept (t' := tk) fun _ _ z => z, rfl, q⟩
theorem re_xis {c : Expr} {cv : Value} {w : V} (T : XIs X.K Cx) (hz : Zc (.ref Ca) (some dd) oe) (hf : ∃ vs, oe.data = .fields vs) (hg : Gl X "isinstance") (hm : X.mg "isinstance" = none) (he : RE (X.suite a ((a, oe) :: pn)) e t) (hc : PE (X.suite a ((a, oe) :: pn)) c (tC w)) (hw : ∀ u, RelV w u → u = cv)
    (hv : bootBuiltins "isinstance" = some (.builtin "isinstance") := by decide +kernel)
    (hs : starEach [e, c] X.env = (false, eval e X.env) :: starEach [c] X.env := by rfl) (hs2 : starEach [c] X.env = (false, eval c X.env) :: starEach [] X.env := by rfl) (hpl : (backTo pos (starEach [c] X.env)).any (·.1) = false := by rfl) :
    RE (X.suite a ((a, oe) :: pn)) (.Call (.Name "isinstance" p) [e, c] [] pos) (mXis X.K a dd Ca Cx cv t) := by
  refine ⟨fun W tk => ⟨fun pins s σ H R I ⟨C, fl, en, Q, WD, G, ⟨hC, ht⟩, k⟩ => ?_⟩⟩
  subst hC
  exact (pe_callB (X := X.suite a ((a, oe) :: pn)) (call_isX T hz hf) hg hm hv (pa_cons (X := X.suite a ((a, oe) :: pn)) (he.run W tk) (pa_cons (X := X.suite a ((a, oe) :: pn)) hc pa_nil hs2) hs) (by decide) (by decide) hs hpl).run pins s σ H R I ⟨C, fl, en, _, WD, G, ht, fun x e1 v H1 R1 l1 rx q => by
      obtain ⟨C', fs, rfl, b, hk, hq⟩ := kX_of q
      obtain ⟨rfl, vs, hdd, rf⟩ := rx
      exact ⟨w, cv, b, vs, rfl, hdd, hw, hk, k (.bl b) e1 _ H1 R1 l1 rfl hq⟩⟩
end
end DL
set_option maxHeartbeats 4000000
namespace DL
open PySem PySem.Spec PyProof.Rows L2
/-! ### sorted(.., key=f), f gives tuples of ints and texts -/
abbrev KL := List (Int ⊕ List Nat)
def keyV : V → Int ⊕ List Nat
  | .int i => .inl i
  | .str x => .inr x.cps.toList
  | _ => .inl 0
/-- a key's items: ints, and texts where shape says so -/
def KItems (shape : Nat → Bool) : Nat → List V → Prop
  | _, [] => True
  | i, .int _ :: r => shape i = false ∧ KItems shape (i + 1) r
  | i, .str _ :: r => shape i = true ∧ KItems shape (i + 1) r
  | _, _ :: _ => False
theorem tupItems_of {shape : Nat → Bool} : ∀ {xs : List V} {us : List Value} {i : Nat}, KItems shape i xs → Vals xs us → PyProof.Rows.tupItems shape i us = some (xs.map keyV)
  | [], _, _, _, .nil => rfl
  | .int n :: r, _, i, ⟨h, k⟩, .cons rv t => by
    obtain ⟨tk, rfl⟩ := rv
    show (if shape i = true then none else (PyProof.Rows.tupItems shape (i + 1) _).map (Sum.inl n :: ·)) = _
    rw [if_neg (by rw [h]; simp), tupItems_of k t]
    rfl
  | .str x :: r, _, i, ⟨h, k⟩, .cons rv t => by
    obtain ⟨tk, rfl⟩ := rv
    show (if shape i = true then (PyProof.Rows.tupItems shape (i + 1) _).map (Sum.inr x.cps.toList :: ·) else none) = _
    rw [if_pos h, tupItems_of k t]
    rfl
def klt (a b : KL) : Bool := PyProof.Rows.lexLt PyProof.Rows.itemOrd a b
/-- keys of the heap -/
structure KeyTup (K : PySem.W.Frag) (H : Hp) (shape : Nat → Bool) (ks : List V) (y : V) : Prop where
  it : KItems shape 0 ks
  ne : ks ≠ []
  at_ : ∃ t, y = .ref t ∧ SqT K H t ks
theorem KeyTup.facts {X : Cx} {pins : List (Addr × Obj)} {σ : L2.St} {H : Hp} {s : Shared} {shape : Nat → Bool} {ks : List V} {y : V} {u : Value} (I : Inv X pins σ H s) (k : KeyTup X.K H shape ks y) (r : RelV y u) :
    G.tupKeyC s.heap shape u = some (ks.map keyV) ∧ ∃ f, PyProof.Rows.TupOf s.heap shape u f := by
  obtain ⟨t, rfl, hs⟩ := k.at_
  obtain rfl : u = Value.ref t := r
  obtain ⟨its, o, n, rv, ho, hc, hd⟩ := sqT_at I.hok I.kIn hs
  refine ⟨?_, ?_⟩
  · unfold G.tupKeyC
    have e : G.isTupObj s.heap (.ref t) = true := by
      show (match s.heap.get? t with | some o => (match o.cls with | .type n => n == "tuple" | _ => false) | none => false) = true
      rw [ho]
      simp only [hc]
      decide
    rw [if_pos e]
    show (match s.heap.get? t with | some o => (match o.data with | .seq xs _ => PyProof.Rows.tupItems shape 0 xs.toList | _ => none) | none => none) = _
    rw [ho]
    simp only [hd]
    exact tupItems_of k.it rv
  · cases hk : ks with
    | nil => exact absurd hk k.ne
    | cons x xr =>
      have it := k.it
      rw [hk] at rv it
      cases rv with
      | @cons _ u0 _ ur r0 rr =>
        refine ⟨u0, t, o, _, n, rfl, ho, hc, hd, by simp, fun hs => ?_, fun hs => ?_⟩
        · cases x <;> first | exact it.elim | skip
          · obtain ⟨tk, rfl⟩ := r0; exact ⟨_, _, rfl⟩
          · rw [it.1] at hs; cases hs
        · cases x <;> first | exact it.elim | skip
          · rw [it.1] at hs; cases hs
          · obtain ⟨tk, rfl⟩ := r0; exact ⟨_, _, rfl⟩
/-- same objects, but for what is at a list -/
def GwX (S : List Addr) (H H' : Hp) : Prop := ∀ b o, H b = some o → b ∉ S → H' b = some o
end DL
set_option maxHeartbeats 4000000
namespace DL
open PySem PySem.Spec PyProof.Rows L2
section
variable {X : Cx} {pins : List (Addr × Obj)} {σ : L2.St} {H : Hp} {s : Shared} {shape : Nat → Bool} {key : V → List V} {f : Value} {xs : List V} {vs : List Value} {a kS : Addr}
/-- the keys that are made: of the first of xs -/
def KeysAt (K : PySem.W.Frag) (H : Hp) (shape : Nat → Bool) (key : V → List V) (xs : List V) (ys : List V) : Prop := Paired (fun x y => KeyTup K H shape (key x) y) xs ys
theorem KeyTup.mono {K : PySem.W.Frag} {H H' : Hp} {ks : List V} {y : V} (h : KeyTup K H shape ks y) (k : ∀ b o, H b = some o → (∀ l, o ≠ .lst l) → H' b = some o) : KeyTup K H' shape ks y := by
  obtain ⟨t, e, q⟩ := h.at_
  refine ⟨h.it, h.ne, t, e, ?_⟩
  rcases q with (q | ⟨o, q⟩) | q
  · exact .inl (.inl (k _ _ q fun _ z => nomatch z))
  · exact .inl (.inr ⟨o, k _ _ q fun _ z => nomatch z⟩)
  · exact .inr q
theorem KeysAt.mono {K : PySem.W.Frag} {H H' : Hp} {xs ys : List V} (k : ∀ b o, H b = some o → (∀ l, o ≠ .lst l) → H' b = some o) (h : KeysAt K H shape key xs ys) : KeysAt K H' shape key xs ys := by
  induction h with
  | nil => exact .nil
  | cons r _ ih => exact .cons (r.mono k) ih
theorem KeysAt.snoc {K : PySem.W.Frag} {x y : V} : ∀ {xs ys : List V}, KeysAt K H shape key xs ys → KeyTup K H shape (key x) y → KeysAt K H shape key (xs ++ [x]) (ys ++ [y])
  | _, _, .nil, h => .cons h .nil
  | _, _, .cons r t, h => .cons r (KeysAt.snoc t h)
theorem Paired.len {α β : Type} {R : α → β → Prop} {l : List α} {m : List β} (h : Paired R l m) : l.length = m.length := Paired.length h
/-- what one call of the key function does -/
def KTurn (X : Cx) (σ : L2.St) (H : Hp) (A : Around) (f : Value) (shape : Nat → Bool) (key : V → List V) (xs : List V) : Prop :=
  ∀ (pins : List (Addr × Obj)) (x : V) (u : Value) (s' : Shared) (H' : Hp), x ∈ xs → RelV x u → Inv X pins σ H' s' → (∀ b o, H b = some o → H' b = some o) →
    wpAny (model X.prog X.w) A (call f [u]) (fun r s'' => ∃ (y : V) (H'' : Hp), Inv X pins σ H'' s'' ∧ (∀ b o, H' b = some o → H'' b = some o) ∧ RelV y r ∧ KeyTup X.K H'' shape (key x) y) (fun _ _ => False) s'
theorem vals_snoc {x : V} {u : Value} : ∀ {xs : List V} {us : List Value}, Vals xs us → RelV x u → Vals (xs ++ [x]) (us ++ [u])
  | _, _, .nil, h => .cons h .nil
  | _, _, .cons r t, h => .cons r (vals_snoc t h)
theorem paired_get {α β : Type} {R : α → β → Prop} {l : List α} {m : List β} (h : Paired R l m) {i : Nat} {y : β} (e : m[i]? = some y) : ∃ x, l[i]? = some x ∧ R x y := by
  induction h generalizing i with
  | nil => simp at e
  | cons r _ ih =>
    cases i with
    | zero => simp at e; subst e; exact ⟨_, rfl, r⟩
    | succ i => simpa using ih (by simpa using e)
theorem lst_at {H : Hp} {a : Addr} {l : List V} (I : Inv X pins σ H s) (h : H a = some (.lst l)) : l.length ≤ sizeLine ∧ ∃ (its : List Value) (n : Nat), Vals l its ∧ s.heap.get? a = some (seqObj "list" its.toArray n) := by
  have x : ObjOk X.prog X.w H s.heap a (.lst l) := I.hok a _ h
  obtain ⟨z, its, n, r, e⟩ := x
  exact ⟨z, its, n, r, e⟩
/-- a tracked list is given other items -/
theorem Inv.setL {l l' : List V} {its' : Array Value} {its : Array Value} {n : Nat} {g : Array Value → Array Value} (I : Inv X pins σ H s) (h : H a = some (.lst l)) (ho : s.heap.get? a = some (seqObj "list" its n)) (hg : g its = its') (r : Vals l' its'.toList) (hz : l'.length ≤ sizeLine) :
    Inv X pins σ (upd H a (.lst l')) { s with heap := s.heap.update a (Obj.mapSeq g) } := by
  have e := get?_update_seq ho g
  rw [hg] at e
  exact I.write (t' := s.toks) (x := a) (e := a) (o := .lst l') (by rw [h]; trivial) (.inl rfl) (fun b u hb q => (Heap.get?_update_ne _ _ _ _ hb).trans q) ⟨_, e⟩ ⟨hz, its'.toList, _, r, by rw [Array.toArray_toList]; exact e⟩
/-- the keys, one call each -/
theorem keys_loop {A : Around} {E : Value → Shared → Prop} {b : Bool} {e1 : Nat} {P : PySem.Fin → Shared → Prop} (T : KTurn X σ H A f shape key xs) (H2 : Hp) (h2 : ∀ b o, H b = some o → H2 b = some o) (nk : H kS = none) (I : Inv X pins σ H2 s) (ek : H2 kS = some (.lst [])) (rv : Vals xs vs) (hz : xs.length ≤ sizeLine)
    (h : ∀ (s' : Shared) (H' : Hp) (ys : List V) (us : List Value), Inv X pins σ H' s' → (∀ b o, H2 b = some o → b ≠ kS → H' b = some o) → H' kS = some (.lst ys) → Vals ys us → KeysAt X.K H' shape key xs ys → wpAny (model X.prog X.w) A (ksk_end a b vs.toArray e1 (.ref kS) us.toArray) P E s') :
    wpAny (model X.prog X.w) A (ksk_rest a f b vs.toArray e1 (.ref kS)) P E s := by
  unfold ksk_rest
  refine wpAny_bind (wpAny_rule ?_)
  first
    | rw [List.forIn_toArray]
    | (rw [← Array.forIn_toList]; simp only [List.toList_toArray])
    | rw [← Array.forIn_toList]
  have hl : xs.length = vs.length := Paired.length rv
  refine wpAny_bind (ksk_fold (fun i s' => ∃ (H' : Hp) (ys : List V), Inv X pins σ H' s' ∧ (∀ b o, H2 b = some o → b ≠ kS → H' b = some o) ∧ H' kS = some (.lst ys) ∧ KeysAt X.K H' shape key (xs.take i) ys) vs 0 s
    ⟨H2, [], I, fun _ _ e _ => e, ek, .nil⟩ ?step ?done)
  case step =>
    rintro j x s' hx ⟨H', ys, I', k', e', hk⟩
    simp only [Nat.zero_add] at hk ⊢
    obtain ⟨xj, hxj, rx⟩ := paired_get rv hx
    have hj : j < xs.length := (List.getElem?_eq_some_iff.mp hxj).1
    refine wpAny_bind (wpAny_attempt (wpAny_mono (T pins xj x s' H' (List.mem_of_getElem? hxj) rx I' fun b o q => k' b o (h2 b o q) fun z => by rw [z, nk] at q; cases q) (fun v s'' he => ?_) fun _ _ hF => hF.elim))
    obtain ⟨y, H'', I'', k'', ry, kt⟩ := he
    try dsimp only
    have e'' := k'' _ _ e'
    obtain ⟨zl, its, n, rl, ho⟩ := lst_at I'' e''
    have hyl : ys.length = j := by
      have q := Paired.length hk
      rw [List.length_take] at q
      omega
    have hil : its.length = j := by rw [← Paired.length rl, hyl]
    refine wpAny_bind (listUpdate_at ho rfl ?_ (by rw [List.size_toArray, hil]; omega) (by rw [Array.size_push, List.size_toArray, hil]; omega))
    refine wpAny_pure ⟨rfl, upd H'' kS (.lst (ys ++ [y])), ys ++ [y], Inv.setL (its' := its.toArray.push v) I'' e'' ho rfl (by simpa using vals_snoc rl ry) (by rw [List.length_append, hyl]; simp; omega), fun b o q hb => ?_, upd_same, ?_⟩
    · rw [upd_ne hb]
      exact k'' _ _ (k' b o q hb)
    · have mono : ∀ b o, H'' b = some o → (∀ l, o ≠ .lst l) → upd H'' kS (.lst (ys ++ [y])) b = some o := fun b o q nl => by
        rw [upd_ne (fun z => by rw [z, e''] at q; exact nl _ (Option.some.inj q).symm)]
        exact q
      rw [List.take_add_one, hxj]
      exact KeysAt.snoc (KeysAt.mono mono (KeysAt.mono (fun b o q _ => k'' b o q) hk)) (kt.mono mono)
  case done =>
    rintro s' ⟨H', ys, I', k', e', hk⟩
    have hk' : KeysAt X.K H' shape key xs ys := by
      have e3 : xs.take (0 + vs.length) = xs := List.take_of_length_le (by omega)
      rw [e3] at hk
      exact hk
    obtain ⟨zl, its, n, rl, ho⟩ := lst_at I' e'
    try dsimp only
    refine wpAny_bind (listItems_at ho rfl ?_)
    exact h s' H' ys its I' k' e' rl hk'
end
end DL
set_option maxHeartbeats 4000000
namespace DL
open PySem PySem.Spec PyProof.Rows L2
section
variable {X : Cx} {pins : List (Addr × Obj)} {σ : L2.St} {H : Hp} {s : Shared} {shape : Nat → Bool} {key : V → List V} {f : Value} {xs : List V} {vs : List Value} {a kS : Addr}
/-- keys, items and their values side by side -/
theorem zip4 {K : PySem.W.Frag} {ks : List V} {us : List Value} (hk : KeysAt K H shape key xs ks) (r : Vals ks us) (rv : Vals xs vs) : ∃ l : List (V × V × Value × Value), l.map (fun q => (q.2.2.1, q.2.2.2)) = us.zip vs ∧ l.map (·.1) = xs ∧ (∀ q ∈ l, KeyTup K H shape (key q.1) q.2.1 ∧ RelV q.2.1 q.2.2.1 ∧ RelV q.1 q.2.2.2) := by
  induction hk generalizing us vs with
  | nil =>
    cases r
    cases rv
    exact ⟨[], rfl, rfl, fun q hq => nomatch hq⟩
  | @cons x y xs' ks' k _ ih =>
    cases r with
    | @cons _ u _ us' r1 r2 =>
      cases rv with
      | @cons _ v _ vs' v1 v2 =>
        obtain ⟨l, h1, h2, h3⟩ := ih r2 v2
        refine ⟨(x, y, u, v) :: l, by rw [List.map_cons, h1]; rfl, by rw [List.map_cons, h2], fun q hq => ?_⟩
        rcases List.mem_cons.mp hq with rfl | hq
        · exact ⟨k, r1, v1⟩
        · exact h3 q hq
theorem vals_map4 : ∀ {l : List (V × V × Value × Value)}, (∀ q ∈ l, RelV q.1 q.2.2.2) → Vals (l.map (·.1)) (l.map (·.2.2.2))
  | [], _ => .nil
  | q :: l, h => .cons (h q List.mem_cons_self) (vals_map4 fun p hp => h p (List.mem_cons_of_mem _ hp))
/-- sorted by the key -/
def SrtK (key : V → List V) (xs ys : List V) : Prop := ys.Perm xs ∧ ys.Pairwise (fun p q => klt ((key q).map keyV) ((key p).map keyV) = false)
theorem sort_end {A : Around} {E : Value → Shared → Prop} {e1 : Nat} {P : PySem.Fin → Shared → Prop} {ys : List V} {us : List Value} (I : Inv X ((a, seqObj "list" #[] e1) :: pins) σ H s) (fp : ∀ H', H' a = none → FpOk X pins H' a) (ek : H kS = some (.lst ys)) (r : Vals ys us) (hk : KeysAt X.K H shape key xs ys) (rv : Vals xs vs) (hz : xs.length ≤ sizeLine)
    (h : ∀ (s' : Shared) (zs : List V), SrtK key xs zs → Inv X pins σ (upd (upd H kS (.lst [])) a (.lst zs)) s' → P (.done (.ret .none)) s') :
    wpAny (model X.prog X.w) A (ksk_end a false vs.toArray e1 (.ref kS) us.toArray) P E s := by
  have hpin := I.pin (a, seqObj "list" #[] e1) (List.mem_append_right _ List.mem_cons_self)
  have hoa : s.heap.get? a = some (seqObj "list" #[] e1) := hpin.1
  have na : H a = none := hpin.2.1
  have hka : kS ≠ a := fun z => by rw [z, na] at ek; cases ek
  have hl : xs.length = vs.length := Paired.length rv
  have hl2 : xs.length = ys.length := Paired.length hk
  have hl3 : ys.length = us.length := Paired.length r
  obtain ⟨l, l1, l2, l3⟩ := zip4 hk r rv
  have hz0 : (us.toArray.zip vs.toArray).toList = us.zip vs := by rw [ksk_zip]
  have hsz : (us.toArray.zip vs.toArray).size = vs.length := by rw [Array.size_zip, List.size_toArray, List.size_toArray]; omega
  have keyOf : ∀ p ∈ (us.toArray.zip vs.toArray).toList, ∃ q ∈ l, p = (q.2.2.1, q.2.2.2) ∧ G.tupKeyC s.heap shape p.1 = some ((key q.1).map keyV) ∧ ∃ f, PyProof.Rows.TupOf s.heap shape p.1 f := fun p hp => by
    rw [hz0, ← l1] at hp
    obtain ⟨q, hq, rfl⟩ := List.mem_map.mp hp
    obtain ⟨k1, k2, _⟩ := l3 q hq
    obtain ⟨f1, f2⟩ := k1.facts I k2
    exact ⟨q, hq, rfl, f1, f2⟩
  have h0 : KeysOf (G.tupKindC s.heap shape) (us.toArray.zip vs.toArray) := fun p hp => by
    obtain ⟨q, _, _, e, _⟩ := keyOf p hp
    exact ⟨_, e⟩
  -- the end, from a sorted array
  have tail : ∀ st : SortSt, (arrOf st).Perm (us.toArray.zip vs.toArray) → SortedToK (G.tupKindC s.heap shape) (arrOf st) (us.toArray.zip vs.toArray).size → failedOf st = none → wpAny (model X.prog X.w) A (ksk_tail a false e1 (.ref kS) st) P E s := by
    intro st hp hs hf
    obtain ⟨zk, itsk, nk, rk, hok⟩ := lst_at I ek
    have hsz2 : (arrOf st).size = vs.length := by rw [hp.size_eq, hsz]
    have J1 := Inv.setL (its' := #[]) (l' := []) (g := fun _ => #[]) I ek hok rfl .nil (Nat.zero_le _)
    have na1 : upd H kS (.lst []) a = none := by rw [upd_ne hka.symm]; exact na
    have hoa1 : (s.heap.update kS (Obj.mapSeq fun _ => (#[] : Array Value))).get? a = some (seqObj "list" #[] e1) := (Heap.get?_update_ne _ _ _ _ hka.symm).trans hoa
    obtain ⟨l', p', e'⟩ := perm_lift (fun q : V × V × Value × Value => (q.2.2.1, q.2.2.2)) (m := (arrOf st).toList) (n := us.zip vs) (by rw [← hz0]; exact Array.perm_iff_toList_perm.mp hp) l l1
    have hmem : ∀ q ∈ l', q ∈ l := fun q hq => p'.mem_iff.mp hq
    have rv' : Vals (l'.map (·.1)) ((arrOf st).map (·.2)).toList := by
      rw [Array.toList_map, ← e', List.map_map]
      exact vals_map4 fun q hq => (l3 q (hmem q hq)).2.2
    have J0 : Inv X pins σ (upd H kS (.lst [])) { s with heap := s.heap.update kS (Obj.mapSeq fun _ => (#[] : Array Value)) } := J1.pins_of fun p hp => J1.pin p (List.mem_append_right _ (List.mem_cons_of_mem _ hp))
    have eupd := get?_update_seq hoa1 (fun _ => (arrOf st).map (·.2))
    have J2 := Inv.take (t' := s.toks) (o := .lst (l'.map (·.1))) J0 (fun b ob hb e => (Heap.get?_update_ne _ _ _ _ hb).trans e) (fp _ na1) ⟨by rw [List.length_map, p'.length_eq, ← List.length_map (f := (·.1)) (as := l), l2]; exact hz, _, _, rv', by rw [Array.toArray_toList]; exact eupd⟩
    unfold ksk_tail
    try dsimp only
    refine wpAny_bind (listUpdate_at hok rfl ?_ (by rw [List.size_toArray, ← Paired.length rk]; omega) (Nat.zero_le _))
    refine wpAny_bind (wpAny_letGo ?_)
    refine wpAny_bind (seqEpoch_at hoa1 rfl ?_)
    refine wpAny_bind (listUpdate_at hoa1 rfl ?_ (Nat.zero_le _) (by simp only [Bool.false_eq_true, if_false, Array.size_map]; omega))
    rw [hf]
    simp only [bne_self_eq_false, Bool.false_eq_true, if_false]
    refine wpAny_pure (h _ (l'.map (·.1)) ⟨by rw [← l2]; exact p'.map _, ?_⟩ J2)
    rw [List.pairwise_map]
    -- sortedness
    rw [List.pairwise_iff_getElem]
    intro i j hi hj hij
    have hii : (arrOf st)[i]? = some (l'[i].2.2.1, l'[i].2.2.2) := by
      rw [← Array.getElem?_toList, ← e', List.getElem?_map, List.getElem?_eq_getElem hi]; rfl
    have hjj : (arrOf st)[j]? = some (l'[j].2.2.1, l'[j].2.2.2) := by
      rw [← Array.getElem?_toList, ← e', List.getElem?_map, List.getElem?_eq_getElem hj]; rfl
    have hsize : j < (us.toArray.zip vs.toArray).size := by
      rw [hsz, ← hsz2, ← Array.length_toList, ← e', List.length_map]; exact hj
    have q := hs i j (Nat.le_of_lt hij) hsize
    have ki := ((l3 _ (hmem _ (List.getElem_mem hi))).1.facts I (l3 _ (hmem _ (List.getElem_mem hi))).2.1).1
    have kj := ((l3 _ (hmem _ (List.getElem_mem hj))).1.facts I (l3 _ (hmem _ (List.getElem_mem hj))).2.1).1
    have e1 : KK (G.tupKindC s.heap shape) (arrOf st) i = (key l'[i].1).map keyV := by
      show (match (arrOf st)[i]? with | some p => ((G.tupKeyC s.heap shape) p.1).getD [] | none => []) = _
      rw [hii]
      show (G.tupKeyC s.heap shape _).getD [] = _
      rw [ki]; rfl
    have e2 : KK (G.tupKindC s.heap shape) (arrOf st) j = (key l'[j].1).map keyV := by
      show (match (arrOf st)[j]? with | some p => ((G.tupKeyC s.heap shape) p.1).getD [] | none => []) = _
      rw [hjj]
      show (G.tupKeyC s.heap shape _).getD [] = _
      rw [kj]; rfl
    rw [e1, e2] at q
    exact q
  unfold ksk_end
  try dsimp only
  simp only [Bool.false_eq_true, if_false]
  by_cases h2 : vs.toArray.size < 2
  · rw [if_pos h2, if_pos h2]
    refine wpAny_bind (wpAny_pure ?_)
    rw [StateT.run_pure]
    refine wpAny_bind (wpAny_pure ?_)
    try dsimp only
    refine tail (SortSt.mk' general' (us.toArray.zip vs.toArray) #[] 7 none) (Array.Perm.refl _) ?_ rfl
    intro i j hij hj
    rw [hsz] at hj
    rw [List.size_toArray] at h2
    have : i = j := by omega
    subst this
    exact KeyOrd.kle_refl _
  · rw [if_neg h2, if_neg h2]
    rw [List.size_toArray] at h2
    have hT : ∀ {us' : List Value} {vs' : List Value}, us'.length = vs'.length → (∀ p ∈ us'.zip vs', ∃ f, PyProof.Rows.TupOf s.heap shape p.1 f) → ∃ fs, PyProof.Rows.TupsOf s.heap shape us' fs := by
      intro us'
      induction us' with
      | nil => exact fun {vs'} _ _ => ⟨[], .nil⟩
      | cons u us' ih =>
        intro vs' hl hh
        cases vs' with
        | nil => simp at hl
        | cons v vs' =>
          obtain ⟨f0, q0⟩ := hh (u, v) List.mem_cons_self
          obtain ⟨fs, qs⟩ := ih (by simpa using hl) fun p hp => hh p (List.mem_cons_of_mem _ hp)
          exact ⟨_, .cons q0 qs⟩
    obtain ⟨fs, ht⟩ := hT (us' := us) (vs' := vs) (by omega) fun p hp => by
      rw [← hz0] at hp
      obtain ⟨_, _, _, _, e⟩ := keyOf p hp
      exact e
    refine wpAny_bind (PyProof.Rows.tup_kind (by rw [G.TupsOf.length ht]; omega) ht ?_)
    refine wpAny_bind (wpAny_mono (G.wpS_sortRunsSt (κ := G.tupKindC s.heap shape) (kd := tuples' true) (a₀ := us.toArray.zip vs.toArray) (st := SortSt.mk' (tuples' true) (us.toArray.zip vs.toArray) #[] 7 none)
      (Q := fun _ st' => (arrOf st').Perm (us.toArray.zip vs.toArray) ∧ failedOf st' = none ∧ SortedToK (G.tupKindC s.heap shape) (arrOf st') (us.toArray.zip vs.toArray).size ∧ Stable (G.tupKindC s.heap shape) (arrOf st') (us.toArray.zip vs.toArray))
      (G.tupC_ltAt true (G.KeepsTups.refl _)) h0 ⟨Array.Perm.refl _, rfl, rfl⟩ rfl (Stable.refl _) (by rw [hsz]; omega) fun st' a1 a2 a3 a4 => ⟨a1, a2, a3, a4⟩) ?_ fun _ _ e => e)
    rintro ⟨⟨⟩, st'⟩ s' ⟨rfl, hp, hf, hs, hst⟩
    try dsimp only
    exact tail st' hp hs hf
end
end DL
set_option maxHeartbeats 4000000
namespace DL
open PySem PySem.Spec PyProof.Rows L2
section
variable {X : Cx} {pins : List (Addr × Obj)} {σ : L2.St} {H : Hp} {s : Shared} {shape : Nat → Bool} {key : V → List V} {f : Value} {xs : List V} {a : Addr}
/-- what sorted has collected -/
def Colls (X : Cx) (pins : List (Addr × Obj)) (σ : L2.St) (H : Hp) (s : Shared) (u : Value) (xs : List V) : Prop := wpAny (model X.prog X.w) X.A.in1 (collect u) (fun vs s1 => Vals xs vs ∧ Inv X pins σ H s1) (fun _ _ => False) s
theorem coll_list (I : Inv X pins σ H s) (hs : SqL X.K H a xs) : Colls X pins σ H s (.ref a) xs ∧ xs.length ≤ sizeLine := by
  obtain ⟨its, rv, hl, hz⟩ := I.list hs
  refine ⟨collect_list (vs := its) hl.isList ⟨rv, ?_⟩ (by rw [← rv.length]; exact hz), hz⟩
  refine I.kept (t' := s.toks) fun b o q => ?_
  have hlt : b < s.heap.objs.size := Heap.lt_size q
  rw [Heap.get?_update_ne _ _ _ _ (Nat.ne_of_lt hlt)]
  exact Heap.get?_push_of_some _ q
theorem coll_dict (hcalm : X.calm = true) (I : Inv X pins σ H s) {kvs : List (Key × V)} (hd : Rd H a (.dK kvs)) : Colls X pins σ H s (.ref a) (kvs.map fun kv => kV kv.1) ∧ (kvs.map fun kv => kV kv.1).length ≤ sizeLine := by
  obtain ⟨z, lo, vs, rel, dd⟩ := dk_rd I.hok hd
  obtain ⟨ep, hat⟩ := dd.dictAt
  have ek : (kvs.map fun kv => kV kv.1) = vs.map fun p => kV p.1 := by
    have e := congrArg (List.map kV) rel.keys
    rw [List.map_map, List.map_map] at e
    exact e
  refine ⟨PySem.W.kdu_collect (PySem.W.kdl_dict (knd := mixKind X.prog X.w) (kvs := vs) (ep := ep) lo) (I.ok.hd hcalm) hat (by rw [← rel.length]; exact z) fun h' tk acc hk hacc => ?_, by rw [List.length_map]; exact z⟩
  have hv : Vals (vs.map fun p => kV p.1) acc.toList := keys_at (by rw [Array.length_toList]; exact hacc.1) fun j v e => hacc.2 j v (by rw [← Array.getElem?_toList]; exact e)
  exact ⟨by rw [ek]; exact hv, I.kept hk⟩
/-- list.sort(key=f) of a new list -/
theorem list_sort_keyed {A : Around} {E : Value → Shared → Prop} {P : PySem.Fin → Shared → Prop} {vs : List Value} {n : Nat} (I : Inv X pins σ H s) (ho : s.heap.get? a = some (seqObj "list" vs.toArray n)) (na : H a = none) (fp : ∀ H', H' a = none → FpOk X pins H' a) (keep : ∀ (h' : Heap) (t' : Nat), (∀ b o, b ≠ a → s.heap.get? b = some o → h'.get? b = some o) → Inv X pins σ H { s with heap := h', toks := t' }) (rv : Vals xs vs) (hz : xs.length ≤ sizeLine) (T : KTurn X σ H A f shape key xs)
    (q : ∀ s' zs H', SrtK key xs zs → (∀ b o, H b = some o → H' b = some o) → H' a = some (.lst zs) → Inv X pins σ H' s' → P (.done (.ret .none)) s') :
    wpAny (model X.prog X.w) A (ksk_tree a f false) P E s := by
  have hl : xs.length = vs.length := Paired.length rv
  obtain ⟨e1, ho1⟩ : ∃ e1, (s.heap.update a (Obj.mapSeq fun _ => (#[] : Array Value))).get? a = some (seqObj "list" #[] e1) := ⟨_, get?_update_seq ho fun _ => #[]⟩
  unfold ksk_tree
  refine wpAny_bind (listItems_at ho rfl ?_)
  refine wpAny_bind (listUpdate_at ho rfl ?_ (by rw [List.size_toArray, ← hl]; exact hz) (Nat.zero_le _))
  refine wpAny_bind (seqEpoch_at ho1 rfl ?_)
  refine wpAny_bind (wpAny_newTuple ?_ (by show vs.length ≤ _; rw [← hl]; exact hz))
  refine wpAny_bind (wpAny_newList ?_ (Nat.zero_le _))
  refine wpAny_holding ?_
  have hoK : (((s.heap.update a (Obj.mapSeq fun _ => (#[] : Array Value))).push (seqObj "tuple" vs.toArray 0)).push (seqObj "list" #[] 0)).get? ((s.heap.update a (Obj.mapSeq fun _ => (#[] : Array Value))).push (seqObj "tuple" vs.toArray 0)).objs.size = some (seqObj "list" #[] 0) := Heap.get?_push_size _ rfl
  have hoA : (((s.heap.update a (Obj.mapSeq fun _ => (#[] : Array Value))).push (seqObj "tuple" vs.toArray 0))).get? a = some (seqObj "list" #[] e1) := Heap.get?_push_of_some _ ho1
  have I1 := keep ((s.heap.update a (Obj.mapSeq fun _ => (#[] : Array Value))).push (seqObj "tuple" vs.toArray 0)) s.toks fun b o hb e => Heap.get?_push_of_some _ ((Heap.get?_update_ne _ _ _ _ hb).trans e)
  have nk := I1.hok.fresh (Nat.le_refl _)
  have f1 := fp H na
  have I2 : Inv X ((a, seqObj "list" #[] e1) :: pins) σ H { s with heap := ((s.heap.update a (Obj.mapSeq fun _ => (#[] : Array Value))).push (seqObj "tuple" vs.toArray 0)), toks := s.toks } := I1.pins_of fun p hp => by
    rcases List.mem_cons.mp hp with rfl | hp
    · exact ⟨hoA, na, f1.2.1, f1.2.2.1, fun v z => by cases z⟩
    · exact I1.pin p (List.mem_append_right _ hp)
  have I3 := I2.laid (t' := s.toks) (o := .lst []) (h' := ((s.heap.update a (Obj.mapSeq fun _ => (#[] : Array Value))).push (seqObj "tuple" vs.toArray 0)).push (seqObj "list" #[] 0)) (fun b o e => Heap.get?_push_of_some _ e) (Nat.le_refl _) ⟨Nat.zero_le _, [], 0, .nil, hoK⟩
  generalize hkS : ((s.heap.update a (Obj.mapSeq fun _ => (#[] : Array Value))).push (seqObj "tuple" vs.toArray 0)).objs.size = kS at hoK nk I3 ⊢
  refine keys_loop (xs := xs) (H := H) T (upd H kS (.lst [])) (fun b o e => ?_) nk I3 upd_same rv hz fun s' H' ys us I' k' e' ru hk => ?_
  · rw [upd_ne (fun z => by rw [z, nk] at e; cases e)]
    exact e
  · refine sort_end I' fp e' ru hk rv hz fun s2 zs hs J => q s2 zs _ hs (fun b o e => ?_) upd_same J
    rw [upd_ne (fun z => by rw [z, na] at e; cases e), upd_ne (fun z => by rw [z, nk] at e; cases e)]
    exact k' b o (by rw [upd_ne (fun z => by rw [z, nk] at e; cases e)]; exact e) fun z => by rw [z, nk] at e; cases e
theorem sorted_keyed {u : Value} {fa : Addr} {Q : VK} (hC : Colls X pins σ H s u xs) (hz : xs.length ≤ sizeLine) (T : KTurn X σ H X.A.in1.in1 (.ref fa) shape key xs)
    (q : ∀ zs p H', SrtK key xs zs → (∀ b o, H b = some o → H' b = some o) → H p = none → H' p = some (.lst zs) → Q (.ref p) H') (ha1 : argsOk "sorted" ⟨[u], [(Str.ofString "key", .ref fa)]⟩) :
    wpAny (model X.prog X.w) X.A (call (.builtin "sorted") [u] [(Str.ofString "key", .ref fa)]) (EP X pins σ Q) X.xe s := by
  refine call_function_entry_kw kind_sorted plain_sorted entry_sorted ha1 ?_
  unfold Builtin.«sorted»
  refine wpAny_bind (m := checkCount "sorted" 1 1 _) (wpAny_pure ?_)
  refine wpAny_bind (wpAny_mono hC (fun vs s1 ⟨rv, I1⟩ => ?_) fun _ _ z => z.elim)
  have hl : xs.length = vs.length := Paired.length rv
  refine wpAny_bind (wpAny_newList ?_ (by rw [← hl]; exact hz))
  have hoL : (s1.heap.push (seqObj "list" vs.toArray 0)).get? s1.heap.objs.size = some (seqObj "list" vs.toArray 0) := Heap.get?_push_size _ rfl
  have na : H s1.heap.objs.size = none := I1.hok.fresh (Nat.le_refl _)
  refine wpAny_bind (wpAny_holding (wpAny_call_entry_kw slot_list_sort ⟨_, hoL, rfl⟩ entry_list_sort ?body (ksk_l1 _ _)))
  case body =>
    have ht' := ksk_t1 fa s1.heap.objs.size
    show wpAny (model X.prog X.w) X.A.in1.in1 (Builtin.«list.sort» ⟨[.ref s1.heap.objs.size], [(Str.ofString "key", .ref fa)]⟩) _ _ _
    rw [ht']
    refine list_sort_keyed (s := { s1 with heap := s1.heap.push (seqObj "list" vs.toArray 0) }) (I1.kept (t' := s1.toks) fun b o e => Heap.get?_push_of_some _ e) hoL na (fun H' hn => I1.fpOk (Nat.le_refl _) hn) (fun h' t' k => I1.kept (t' := t') fun b o e => k b o (Nat.ne_of_lt (Heap.lt_size e)) (Heap.get?_push_of_some _ e)) rv hz T fun s2 zs H' hs hk hp J => ⟨_, rfl, ?_⟩
    exact wpAny_pure ⟨_, rfl, .ref s1.heap.objs.size, H', J, rfl, q zs _ H' hs hk na hp⟩
end
end DL
set_option maxHeartbeats 4000000
namespace DL
open PySem PySem.Spec PyProof.Rows L2
section
variable {X : Cx} {pins : List (Addr × Obj)} {σ : L2.St} {H : Hp} {s : Shared} {shape : Nat → Bool}
def KTs (K : PySem.W.Frag) (H : Hp) (shape : Nat → Bool) : List V → List KL → Prop := Paired (fun x kl => ∃ ks, KeyTup K H shape ks x ∧ ks.map keyV = kl)
theorem zip3 {K : PySem.W.Frag} {items : List V} {kls : List KL} {vs : List Value} (hk : KTs K H shape items kls) (rv : Vals items vs) : ∃ l : List (V × KL × Value), l.map (fun q => (q.2.2, q.2.2)) = vs.map (fun v => (v, v)) ∧ l.map (fun q => (q.1, q.2.1)) = items.zip kls ∧ (∀ q ∈ l, (∃ ks, KeyTup K H shape ks q.1 ∧ ks.map keyV = q.2.1) ∧ RelV q.1 q.2.2) ∧ l.length = items.length := by
  induction hk generalizing vs with
  | nil => cases rv; exact ⟨[], rfl, rfl, (fun q hq => nomatch hq), rfl⟩
  | @cons x kl xs' kls' k _ ih =>
    cases rv with
    | @cons _ v _ vs' v1 v2 =>
      obtain ⟨l, h1, h2, h3, h4⟩ := ih v2
      refine ⟨(x, kl, v) :: l, by rw [List.map_cons, h1]; rfl, by rw [List.map_cons, h2]; rfl, fun q hq => ?_, by simp [h4]⟩
      rcases List.mem_cons.mp hq with rfl | hq
      · exact ⟨k, v1⟩
      · exact h3 q hq
theorem zmap_perm {p : Keyed → Keyed} : True := trivial
/-- sorted(l), l a list of tuples of ints and texts -/
theorem call_sortedTup : CallR X (.builtin "sorted") (fun xs H Q => ∃ (a : Addr) (items : List V) (kls : List KL) (shape : Nat → Bool), xs = [.ref a] ∧ SqL X.K H a items ∧ KTs X.K H shape items kls ∧
    ∀ (zs : List (V × KL)) p, zs.Perm (items.zip kls) → zs.Pairwise (fun p q => klt q.2 p.2 = false) → H p = none → Q (.ref p) (upd H p (.lst (zs.map (·.1))))) := by
  intro pins s σ H xs us Q I r q
  obtain ⟨a, items, kls, shape, rfl, hs, hk, q⟩ := q
  obtain ⟨its, rv, hl, hz⟩ := I.list hs
  rw [Vals.ref1 r]
  obtain ⟨l, l1, l2, l3, l4⟩ := zip3 hk rv
  have hlen : items.length = its.length := Paired.length rv
  have fact : ∀ v ∈ its, ∃ q ∈ l, q.2.2 = v ∧ G.tupKeyC s.heap shape v = some q.2.1 ∧ ∃ f, PyProof.Rows.TupOf s.heap shape v f := fun v hv => by
    have hv' : (v, v) ∈ its.map (fun v => (v, v)) := List.mem_map_of_mem hv
    rw [← l1] at hv'
    obtain ⟨q, hq, e⟩ := List.mem_map.mp hv'
    obtain ⟨⟨ks, k1, k2⟩, k3⟩ := l3 q hq
    have e1 : q.2.2 = v := (Prod.mk.inj e).1
    subst e1
    obtain ⟨f1, f2⟩ := k1.facts I k3
    rw [k2] at f1
    exact ⟨q, hq, rfl, f1, f2⟩
  have hT : ∀ {us' : List Value}, (∀ v ∈ us', ∃ f, PyProof.Rows.TupOf s.heap shape v f) → ∃ fs, PyProof.Rows.TupsOf s.heap shape us' fs := by
    intro us'
    induction us' with
    | nil => exact fun _ => ⟨[], .nil⟩
    | cons u us' ih =>
      intro hh
      obtain ⟨f0, q0⟩ := hh u List.mem_cons_self
      obtain ⟨fs, qs⟩ := ih fun p hp => hh p (List.mem_cons_of_mem _ hp)
      exact ⟨_, .cons q0 qs⟩
  obtain ⟨fs, ht⟩ := hT (us' := its) fun v hv => (fact v hv).elim fun q h => h.2.2.2
  refine G.sorted_tups hl.isList ht (fun v hv => (fact v hv).elim fun q h => ⟨_, h.2.2.1⟩) (by rw [← hlen]; exact hz) fun st' hp hs' _ => ?_
  have epairs : (pairsOf its).toList = its.map (fun v => (v, v)) := by rw [pairsOf_toList, SrtR.zip_self]
  obtain ⟨l', p', e'⟩ := perm_lift (fun q : V × KL × Value => (q.2.2, q.2.2)) (m := (arrOf st').toList) (n := its.map (fun v => (v, v))) (by rw [← epairs]; exact Array.perm_iff_toList_perm.mp hp) l l1
  have hmem : ∀ q ∈ l', q ∈ l := fun q hq => p'.mem_iff.mp hq
  obtain ⟨ep, he'⟩ := PyProof.Rows.sortedAll_at s.heap its ((arrOf st').map (·.2))
  have rv' : Vals ((l'.map fun q => (q.1, q.2.1)).map (·.1)) ((arrOf st').map (·.2)).toList := by
    rw [Array.toList_map, ← e', List.map_map, List.map_map]
    have key : ∀ {m : List (V × KL × Value)}, (∀ q ∈ m, RelV q.1 q.2.2) → Vals (m.map ((fun x : V × KL => x.1) ∘ fun q => (q.1, q.2.1))) (m.map ((fun x : Value × Value => x.2) ∘ fun q => (q.2.2, q.2.2))) := by
      intro m
      induction m with
      | nil => exact fun _ => .nil
      | cons q m ih => exact fun h => .cons (h q List.mem_cons_self) (ih fun p hp => h p (List.mem_cons_of_mem _ hp))
    exact key fun q hq => (l3 q (hmem q hq)).2
  have hzl : ((l'.map fun q => (q.1, q.2.1)).map (·.1)).length ≤ sizeLine := by rw [List.length_map, List.length_map, p'.length_eq, l4]; exact hz
  refine ⟨.ref _, upd H (s.heap.objs.size + 1) (.lst ((l'.map fun q => (q.1, q.2.1)).map (·.1))), I.laid (t' := s.toks) (fun _ _ => PyProof.Rows.sortedAll_old) (Nat.le_succ _) ⟨hzl, _, ep, rv', by rw [Array.toArray_toList]; exact he'⟩, rfl, q _ _ ?_ ?_ (I.hok.fresh (Nat.le_succ _))⟩
  · rw [← l2]; exact p'.map _
  · rw [List.pairwise_map, List.pairwise_iff_getElem]
    intro i j hi hj hij
    have hii : (arrOf st')[i]? = some (l'[i].2.2, l'[i].2.2) := by
      rw [← Array.getElem?_toList, ← e', List.getElem?_map, List.getElem?_eq_getElem hi]; rfl
    have hjj : (arrOf st')[j]? = some (l'[j].2.2, l'[j].2.2) := by
      rw [← Array.getElem?_toList, ← e', List.getElem?_map, List.getElem?_eq_getElem hj]; rfl
    have hsize : j < (pairsOf its).size := by
      rw [← hp.size_eq, ← Array.length_toList, ← e', List.length_map]; exact hj
    have q := hs' i j (Nat.le_of_lt hij) hsize
    have fk : ∀ q ∈ l, G.tupKeyC s.heap shape q.2.2 = some q.2.1 := fun q hq => by
      obtain ⟨⟨ks, k1, k2⟩, k3⟩ := l3 q hq
      rw [(k1.facts I k3).1, k2]
    have ki := fk _ (hmem _ (List.getElem_mem hi))
    have kj := fk _ (hmem _ (List.getElem_mem hj))
    have e1 : KK (G.tupKindC s.heap shape) (arrOf st') i = l'[i].2.1 := by
      show (match (arrOf st')[i]? with | some p => ((G.tupKeyC s.heap shape) p.1).getD [] | none => []) = _
      rw [hii]
      show (G.tupKeyC s.heap shape _).getD [] = _
      rw [ki]; rfl
    have e2 : KK (G.tupKindC s.heap shape) (arrOf st') j = l'[j].2.1 := by
      show (match (arrOf st')[j]? with | some p => ((G.tupKeyC s.heap shape) p.1).getD [] | none => []) = _
      rw [hjj]
      show (G.tupKeyC s.heap shape _).getD [] = _
      rw [kj]; rfl
    rw [e1, e2] at q
    exact q
end
/-! ### D: sorted -/
def keyK : D → Int ⊕ List Nat
  | .int i => .inl i
  | .str x => .inr x.cps.toList
  | _ => .inl 0
def KItD (shape : Nat → Bool) : Nat → List D → Prop
  | _, [] => True
  | i, .int _ :: r => shape i = false ∧ KItD shape (i + 1) r
  | i, .str _ :: r => shape i = true ∧ KItD shape (i + 1) r
  | _, _ :: _ => False
theorem kit_rep {K : PySem.W.Frag} {M : Addr → Prop} {H : Hp} {shape : Nat → Bool} : ∀ {ks : List D} {vs : List V} {i : Nat}, KItD shape i ks → Reps K M H ks vs → KItems shape i vs ∧ vs.map keyV = ks.map keyK
  | [], _, _, _, h => by obtain rfl : _ = [] := h; exact ⟨trivial, rfl⟩
  | .int n :: r, _, i, ⟨h, k⟩, ⟨v, vr, e, rv, t⟩ => by
    subst e
    obtain rfl : v = .int n := rv
    obtain ⟨k1, k2⟩ := kit_rep k t
    exact ⟨⟨h, k1⟩, by rw [List.map_cons, k2]; rfl⟩
  | .str n :: r, _, i, ⟨h, k⟩, ⟨v, vr, e, rv, t⟩ => by
    subst e
    obtain rfl : v = .str n := rv
    obtain ⟨k1, k2⟩ := kit_rep k t
    exact ⟨⟨h, k1⟩, by rw [List.map_cons, k2]; rfl⟩
def keysS : List (Key × D) → Option (List Str)
  | [] => some []
  | (.inr x, _) :: r => (keysS r).map (x :: ·)
  | _ :: _ => none
theorem keysS_iff : ∀ {ds : List (Key × D)} {ss : List Str}, keysS ds = some ss → ds.map (·.1) = ss.map Sum.inr
  | [], _, h => by cases h; rfl
  | (.inr x, _) :: r, ss, h => by
    obtain ⟨t, ht, rfl⟩ := Option.map_eq_some_iff.mp (show (keysS r).map (x :: ·) = some ss from h)
    rw [List.map_cons, keysS_iff ht]; rfl
  | (.inl _, _) :: _, _, h => by cases h
/-- the texts of a list, a dict's keys -/
def strsOf : D → Option (List Str)
  | .lst ds => unS ds
  | .dct kvs => keysS kvs
  | _ => none
theorem repK_keys {K : PySem.W.Frag} {M : Addr → Prop} {H : Hp} : ∀ {kvs : List (Key × D)} {vs : List (Key × V)}, RepK K M H kvs vs → vs.map (·.1) = kvs.map (·.1)
  | [], _, h => by obtain rfl : _ = [] := h; rfl
  | (k, d) :: r, _, ⟨v, vr, e, ⟨e1, _⟩, t⟩ => by
    subst e
    rw [List.map_cons, List.map_cons, repK_keys t, e1]
end DL
set_option maxHeartbeats 4000000
namespace DL
open PySem PySem.Spec PyProof.Rows L2
/-- a list of flat tuples -/
def tupsOf (shape : Nat → Bool) : List D → Option (List (List D))
  | [] => some []
  | .tup ks :: r => (tupsOf shape r).map (ks :: ·)
  | _ :: _ => none
def oSorted : DR1 := fun x k => (∃ ss, strsOf x = some ss ∧ ss.length < 64 ∧ ∀ ys : List Str, ys.Perm ss → sortedS ys = true → k (.lst (ys.map .str))) ∨
  (∃ (ds : List D) (shape : Nat → Bool) (kd : D → List D), x = .lst ds ∧ (∀ d ∈ ds, d = .tup (kd d) ∧ KItD shape 0 (kd d) ∧ kd d ≠ []) ∧ ∀ ds' : List D, ds'.Perm ds → ds'.Pairwise (fun p q => klt ((kd q).map keyK) ((kd p).map keyK) = false) → k (.lst ds'))
theorem tups_rep {K : PySem.W.Frag} {M : Addr → Prop} {H : Hp} {shape : Nat → Bool} {kd : D → List D} : ∀ {ds : List D} {vs : List V}, (∀ d ∈ ds, d = .tup (kd d) ∧ KItD shape 0 (kd d) ∧ kd d ≠ []) → Reps K M H ds vs → KTs K H shape vs (ds.map fun d => (kd d).map keyK)
  | [], _, _, h => by obtain rfl : _ = [] := h; exact .nil
  | d :: ds, _, hh, ⟨v, r, e, rv, t⟩ => by
    subst e
    obtain ⟨e1, e2, e3⟩ := hh d List.mem_cons_self
    refine .cons ?_ (tups_rep (fun d hd => hh d (List.mem_cons_of_mem _ hd)) t)
    rw [e1] at rv
    obtain ⟨a, vs, rfl, hs, rs⟩ := rv
    obtain ⟨k1, k2⟩ := kit_rep e2 rs
    refine ⟨vs, ⟨k1, fun z => ?_, a, rfl, hs⟩, k2⟩
    have := rs.length
    rw [z] at this
    exact e3 (List.eq_nil_of_length_eq_zero this)
theorem zipD {K : PySem.W.Frag} {M : Addr → Prop} {H : Hp} {kd : D → List D} : ∀ {ds : List D} {vs : List V}, Reps K M H ds vs → ∃ l : List (D × V), l.map (·.1) = ds ∧ l.map (fun q => (q.2, (kd q.1).map keyK)) = vs.zip (ds.map fun d => (kd d).map keyK) ∧ ∀ q ∈ l, Rep K M H q.1 q.2
  | [], _, h => by obtain rfl : _ = [] := h; exact ⟨[], rfl, rfl, fun q hq => nomatch hq⟩
  | d :: ds, _, ⟨v, r, e, rv, t⟩ => by
    subst e
    obtain ⟨l, h1, h2, h3⟩ := zipD (kd := kd) t
    refine ⟨(d, v) :: l, by rw [List.map_cons, h1], by rw [List.map_cons, h2]; rfl, fun q hq => ?_⟩
    rcases List.mem_cons.mp hq with rfl | hq
    · exact rv
    · exact h3 q hq
theorem reps_map {K : PySem.W.Frag} {M : Addr → Prop} {H : Hp} : ∀ {l : List (D × V)}, (∀ q ∈ l, Rep K M H q.1 q.2) → Reps K M H (l.map (·.1)) (l.map (·.2))
  | [], _ => rfl
  | q :: l, h => ⟨_, _, rfl, h q List.mem_cons_self, reps_map fun p hp => h p (List.mem_cons_of_mem _ hp)⟩
section
variable {X : Cx} {e : Expr} {p pos : Pos} {t : ME}
theorem strs_pk {K : PySem.W.Frag} {C : Cn} {fl : List Addr} {σ : L2.St} {H : Hp} {en : En} {x : D} {v : V} {ss : List Str} (h : strsOf x = some ss) (pk : DL.Pk K C fl en H x v) (R : StR C fl σ H en) (ck : C.K = K) :
    ∃ a, v = .ref a ∧ (SqL K H a (ss.map V.str) ∨ ∃ kvs, Rd H a (.dK kvs) ∧ kvs.map (·.1) = ss.map Sum.inr) := by
  cases x with
  | lst ds =>
    obtain ⟨a, vs, rfl, ha, rs⟩ := pk.lst R ck
    have := unS_of (show unS ds = some ss from h)
    subst this
    rw [rs.strs] at ha
    exact ⟨a, rfl, .inl (SqL.of ha)⟩
  | dct kvs =>
    obtain ⟨a, vs, rfl, ha, rs⟩ := pk.dct R ck
    exact ⟨a, rfl, .inr ⟨vs, ha, by rw [repK_keys rs, keysS_iff (show keysS kvs = some ss from h)]⟩⟩
  | _ => cases h
theorem call_sortedA (hcalm : X.calm = true) : CallR X (.builtin "sorted") (fun xs H Q => (∃ (a : Addr) (ss : List Str), xs = [.ref a] ∧ (SqL X.K H a (ss.map V.str) ∨ ∃ kvs, Rd H a (.dK kvs) ∧ kvs.map (·.1) = ss.map Sum.inr) ∧ ss.length < 64 ∧ ∀ (ys : List Str) (p : Addr), ys.Perm ss → sortedS ys = true → H p = none → Q (.ref p) (upd H p (.lst (ys.map V.str)))) ∨
    (∃ (a : Addr) (items : List V) (kls : List KL) (shape : Nat → Bool), xs = [.ref a] ∧ SqL X.K H a items ∧ KTs X.K H shape items kls ∧
    ∀ (zs : List (V × KL)) p, zs.Perm (items.zip kls) → zs.Pairwise (fun p q => klt q.2 p.2 = false) → H p = none → Q (.ref p) (upd H p (.lst (zs.map (·.1)))))) := by
  intro pins s σ H xs us Q I r h
  rcases h with ⟨a, ss, rfl, hs | ⟨kvs, hd, hk⟩, h64, q⟩ | h
  · exact cr_sortedS pins s σ H _ us Q I r ⟨a, ss, rfl, hs, h64, q⟩
  · exact call_sortedD hcalm pins s σ H _ us Q I r ⟨a, kvs, ss, rfl, hd, hk, h64, q⟩
  · exact call_sortedTup pins s σ H _ us Q I r h
theorem rf_sorted (hcalm : X.calm = true) (hg : Gl X "sorted") (hm : X.mg "sorted" = none) (ha : RP X e t) (hv : bootBuiltins "sorted" = some (.builtin "sorted") := by decide +kernel) (hs : starEach [e] X.env = (false, eval e X.env) :: starEach [] X.env := by rfl) (hpl : (backTo pos (starEach [] X.env)).any (·.1) = false := by rfl) :
    RF X (.Call (.Name "sorted" p) [e] [] pos) (mB1 oSorted t) := ⟨fun W tk => (pe_callB (call_sortedA hcalm) hg hm hv (pa_cons (ha.run W tk) pa_nil hs) (by decide) (by decide) hs hpl).of fun σ H R ⟨C, fl, e, Q, WD, G, ht, k⟩ =>
  ⟨C, fl, e, _, WD, G, ht, fun x e1 v H1 R1 l1 pk q => by
    rcases q with ⟨ss, hss, h64, q⟩ | ⟨ds, shape, kd, rfl, hd, q⟩
    · obtain ⟨a, rfl, h⟩ := strs_pk hss pk R1 G.k
      refine .inl ⟨a, ss, rfl, h, h64, fun ys p h1 h2 hp => ?_⟩
      obtain ⟨R2, l2⟩ := R1.float G.ok (o := .lst (ys.map V.str)) hp trivial
      exact k (.lst (ys.map .str)) e1 p _ R2 (l1.trans l2) ⟨_, upd_same, reps_strs _⟩ (q ys h1 h2)
    · obtain ⟨a, vs, rfl, ha, rs⟩ := pk.lst R1 G.k
      refine .inr ⟨a, vs, _, shape, rfl, SqL.of ha, tups_rep hd rs, fun zs p h1 h2 hp => ?_⟩
      obtain ⟨l, m1, m2, m3⟩ := zipD (kd := kd) rs
      obtain ⟨l', p', e'⟩ := perm_lift (fun q : D × V => (q.2, (kd q.1).map keyK)) h1 l m2
      obtain ⟨R2, l2⟩ := R1.float G.ok (o := .lst (zs.map (·.1))) hp trivial
      have ez : zs.map (·.1) = l'.map (·.2) := by rw [← e', List.map_map]; rfl
      refine k (.lst (l'.map (·.1))) e1 p _ R2 (l1.trans l2) ⟨_, upd_same, ?_⟩ (q (l'.map (·.1)) (by rw [← m1]; exact p'.map _) ?_)
      · have hh := reps_map (l := l') fun q hq => (m3 q (p'.mem_iff.mp hq)).later l2
        rw [← ez] at hh
        exact hh
      · rw [← e', List.pairwise_map] at h2
        rw [List.pairwise_map]
        exact h2⟩⟩
end
/-! ### sorted(x, key=f) of texts -/
def mSortK (sp : SpD) (t : ME) : ME := fun e Q W => t e (fun x e1 => ∃ (ss : List Str) (key : Str → List D) (shape : Nat → Bool), strsOf x = some ss ∧
  (∀ s ∈ ss, KItD shape 0 (key s) ∧ key s ≠ [] ∧ sp [.d (.str s)] (fun r _ => r = .d (.tup (key s))) (fun _ _ _ => False)) ∧
  ∀ ss' : List Str, ss'.Perm ss → ss'.Pairwise (fun p q => klt ((key q).map keyK) ((key p).map keyK) = false) → Q (.lst (ss'.map .str)) e1) W
theorem perm_strs {zs : List V} : ∀ {ss : List Str}, zs.Perm (ss.map V.str) → ∃ ss' : List Str, zs = ss'.map V.str ∧ ss'.Perm ss := fun {ss} h => by
  obtain ⟨l', p, e⟩ := perm_lift V.str h ss rfl
  exact ⟨l', e.symm, p⟩
section
variable {X : Cx} {e : Expr} {p pos q kp : Pos} {t : ME} {x : Str} {a : Addr} {ps : List Str} {j k : Nat} {sp : SpD}
theorem call_sortedK (hcalm : X.calm = true) {fa : Addr} {fd : FuncData} (F : FnD X.prog X.w X.K X.mg X.base j fa fd ps sp) (hb : Binds X.K fd ps []) (hl : ps.length = 1) (hr : Room (j + 2) X.A) :
    CallRK X (.builtin "sorted") [Str.ofString "key"] (fun xs zs H Q => ∃ (a : Addr) (ss : List Str) (key : Str → List D) (shape : Nat → Bool) (M : Addr → Prop), xs = [.ref a] ∧ zs = [.ref fa] ∧ (SqL X.K H a (ss.map V.str) ∨ ∃ kvs, Rd H a (.dK kvs) ∧ kvs.map (·.1) = ss.map Sum.inr) ∧
      (∀ s ∈ ss, KItD shape 0 (key s) ∧ key s ≠ [] ∧ sp [.d (.str s)] (fun r _ => r = .d (.tup (key s))) (fun _ _ _ => False)) ∧
      ∀ (ss' : List Str) p H', ss'.Perm ss → ss'.Pairwise (fun p q => klt ((key q).map keyK) ((key p).map keyK) = false) → (∀ b o, H b = some o → H' b = some o) → H p = none → H' p = some (.lst (ss'.map V.str)) → Q (.ref p) H') := by
  intro pins s σ H xs zs us ws Q I r rz h
  obtain ⟨a, ss, key, shape, M, rfl, rfl, hss, hsp, q⟩ := h
  rw [Vals.ref1 r, Vals.ref1 rz]
  show wpAny _ _ (call (.builtin "sorted") [.ref a] [(Str.ofString "key", .ref fa)]) _ _ _
  obtain ⟨hC, hz⟩ : Colls X pins σ H s (.ref a) (ss.map V.str) ∧ (ss.map V.str).length ≤ sizeLine := by
    rcases hss with hs | ⟨kvs, hd, hk⟩
    · exact coll_list I hs
    · have e : (kvs.map fun kv => kV kv.1) = ss.map V.str := by
        have e := congrArg (List.map kV) hk
        rw [List.map_map, List.map_map] at e
        exact e
      rw [← e]
      exact coll_dict hcalm I hd
  let keyv : V → List V := fun x => match x with | .str s => (key s).map toV | _ => []
  have kv : ∀ s ∈ ss, (keyv (.str s)).map keyV = (key s).map keyK := fun s hs => by
    obtain ⟨h1, _, _⟩ := hsp s hs
    show ((key s).map toV).map keyV = _
    have : ∀ {ks : List D} {i : Nat}, KItD shape i ks → (ks.map toV).map keyV = ks.map keyK := by
      intro ks
      induction ks with
      | nil => intro i _; rfl
      | cons d r ih =>
        intro i h
        cases d <;> first | exact h.elim | skip
        · rw [List.map_cons, List.map_cons, ih h.2]; rfl
        · rw [List.map_cons, List.map_cons, ih h.2]; rfl
    exact this h1
  refine sorted_keyed (shape := shape) (key := keyv) hC hz (fun pins' y u s' H' hy ry I' kk => ?_) (fun zs p H' hs kk hp hh => ?_) (ksk_s1 _ _)
  · obtain ⟨t, ht, rfl⟩ := List.mem_map.mp hy
    obtain ⟨h1, h2, h3⟩ := hsp t ht
    have b := hb s' [u] I'.kIn (by show 1 + 0 = _; rw [hl])
    rw [List.append_nil] at b
    refine wpAny_call (codeAny_mono (F.ok.run X.A.in1.in1 X.stack s' H' ⟨[u], []⟩ [u] [V.str t] (fun y H'' => (∀ b o, H' b = some o → H'' b = some o) ∧ KeyTup X.K H'' shape (keyv (.str t)) y) (fun _ _ _ => False) hr.in1.in1 I'.env0.in1.in1 b (.cons ry .nil) ?_) fun r s'' hq => ?_)
    · refine ⟨fun _ => False, [.d (.str t)], _, _, by rw [hl]; rfl, by rw [hl]; rfl, fun _ z => z.elim, fun a ha => by simp [owns, ownA] at ha, List.nodup_nil, fun i s hi => ?_, h3, fun r xs v H'' hr hq => ?_, fun _ _ _ _ _ _ _ _ _ _ z => z.elim⟩
      · cases i with
        | zero => obtain rfl := Option.some.inj hi; exact ⟨_, rfl, rfl⟩
        | succ i => simp at hi
      · subst hq
        obtain ⟨kp, _, rv⟩ := hr
        refine ⟨fun b o e => kp b o e (by simp [owns, ownA]), ?_⟩
        obtain ⟨a', vs, rfl, hs', rs⟩ := rv
        obtain ⟨k1, _⟩ := kit_rep h1 rs
        have ev : keyv (.str t) = vs := by
          show (key t).map toV = vs
          have : ∀ {ks : List D} {vs : List V} {i : Nat} {M : Addr → Prop}, KItD shape i ks → Reps X.K M H'' ks vs → ks.map toV = vs := by
            intro ks
            induction ks with
            | nil => intro vs i M _ h; exact h.symm
            | cons d r ih =>
              intro vs i M h ⟨v, vr, e, rv, t⟩
              subst e
              cases d <;> first | exact h.elim | skip
              · obtain rfl : v = _ := rv
                rw [List.map_cons, ih h.2 t]; rfl
              · obtain rfl : v = _ := rv
                rw [List.map_cons, ih h.2 t]; rfl
          exact this h1 rs
        rw [ev]
        refine ⟨k1, fun z => ?_, a', rfl, hs'⟩
        have := rs.length
        rw [z] at this
        exact h2 (List.eq_nil_of_length_eq_zero this)
    · cases r with
      | error e =>
        obtain ⟨_, _, _, _, _, _, _, _, _, _, _, _, z⟩ := hq
        exact z.elim
      | ok fl =>
        cases fl with
        | ret u' =>
          obtain ⟨y', H'', J, rv, e1, e2⟩ := I'.after hq
          exact ⟨y', H'', J, e1, rv, e2⟩
        | next => exact False.elim hq
        | brk => exact False.elim hq
        | cont => exact False.elim hq
  · obtain ⟨ss', rfl, hp'⟩ := perm_strs hs.1
    refine q ss' p H' hp' ?_ kk hp hh
    have h2 := hs.2
    rw [List.pairwise_map] at h2
    refine h2.imp_of_mem fun {p q} hp2 hq2 h => ?_
    rw [kv _ (hp'.mem_iff.mp hp2), kv _ (hp'.mem_iff.mp hq2)] at h
    exact h
theorem rf_sortedK (D : Def X.prog X.w X.K X.mg X.base x a ps j sp) (hr : Room k X.A) (hm : X.mg "sorted" = none) (ha : RP X e t) (hcalm : X.calm = true := by rfl) (hgx : Gl X x := by rfl) (hg : Gl X "sorted" := by rfl) (hle : j + 2 ≤ k := by decide) (hl : ps.length = 1 := by rfl) (hv : bootBuiltins "sorted" = some (.builtin "sorted") := by decide +kernel) (hdx : (x == ("__debug__" : Str)) = false := by decide)
    (hs : starEach [e] X.env = (false, eval e X.env) :: starEach [] X.env := by rfl)
    (he : backTo pos (starEach [e] X.env) = (false, eval e X.env) :: backTo pos (starEach [] X.env) := by rfl) (hpl : (backTo pos (starEach [e] X.env)).any (·.1) = false := by rfl)
    (hall : (backToKw pos (keywordEach [⟨some "key", .Name x q, kp⟩] X.env)).all (·.1.isSome) = true := by rfl) (hnone : (backToKw pos (keywordEach [⟨some "key", .Name x q, kp⟩] X.env)).any (·.1.isNone) = false := by rfl) (hks : (backToKw pos (keywordEach [⟨some "key", .Name x q, kp⟩] X.env)).filterMap (·.1) = [Str.ofString "key"] := by rfl) :
    RF X (.Call (.Name "sorted" p) [e] [⟨some "key", .Name x q, kp⟩] pos) (mSortK sp t) := ⟨fun W tk => by
  obtain ⟨⟨fd, F, hb⟩, hma, hk⟩ := D
  refine (pe_callBK (call_sortedK hcalm F hb hl (hr.mono hle)) hg hm hv (pa_cons (ha.run W tk) pa_nil hs) (pk_cons (pe_glob (v := .ref a) hgx hma rfl hdx) pk_nil) (by decide) (by decide) he hpl hall hnone hks).of fun σ H R ⟨C, fl, e, Q, WD, G, ht, k⟩ => ?_
  refine ⟨C, fl, e, _, WD, G, ht, fun x e1 v H1 R1 l1 pk ⟨ss, key, shape, hss, hsp, hq⟩ => ?_⟩
  obtain ⟨b, rfl, h⟩ := strs_pk hss pk R1 G.k
  refine ⟨b, ss, key, shape, fun _ => False, rfl, rfl, h, hsp, fun ss' p H' h1 h2 kk hp hh => ?_⟩
  have np : (fun b => if b = p then none else H' b : Hp) p = none := if_pos rfl
  have eH : H' = upd (fun b => if b = p then none else H' b) p (.lst (ss'.map V.str)) := by
    funext b
    by_cases hb : b = p
    · rw [hb, upd_same, hh]
    · rw [upd_ne hb, if_neg hb]
  obtain ⟨R2, l2⟩ := R1.heap (H' := fun b => if b = p then none else H' b) fun b o eb => by
    show (if b = p then none else H' b) = some o
    rw [if_neg (fun z => by rw [z, hp] at eb; cases eb)]
    exact kk b o eb
  obtain ⟨R3, l3⟩ := R2.float G.ok (o := .lst (ss'.map V.str)) np trivial
  rw [← eH] at R3 l3
  exact k (.lst (ss'.map .str)) e1 p H' R3 ((l1.trans l2).trans l3) ⟨_, hh, reps_strs _⟩ (hq ss' h1 h2)⟩
end
end DL
set_option maxHeartbeats 4000000
namespace DL
open PySem PySem.Spec PyProof.Rows L2
/-! ### a dict that is locked for a while -/
/-- a's dict is locked or unlocked, the rest stands -/
structure Sw (a : Addr) (od : Obj) (vs : List (Key × V)) (H H' : Hp) : Prop where
  ne : ∀ b, b ≠ a → H' b = H b
  at_ : Rd H a (.dK vs)
  to : Rd H' a (.dK vs)
theorem Rd.uniq {H : Hp} {a : Addr} {vs ws : List (Key × V)} (h : Rd H a (.dK vs)) (q : Rd H a (.dK ws)) : ws = vs := by
  rcases h with h | ⟨o, h⟩ <;> rcases q with q | ⟨o', q⟩ <;> rw [h] at q <;> cases q <;> rfl
section
variable {K : PySem.W.Frag} {M : Addr → Prop} {H H' : Hp} {a : Addr} {od : Obj} {vs : List (Key × V)}
theorem Sw.keep (s : Sw a od vs H H') {b : Addr} {o : HO} (h : H b = some o) (n : ∀ ws, o ≠ .dK ws) (n2 : ∀ u ws, o ≠ .frz u (.dK ws)) : H' b = some o := by
  rw [s.ne b fun z => ?_]
  · exact h
  · subst z
    rcases s.at_ with q | ⟨o', q⟩
    · rw [h] at q; exact n _ (Option.some.inj q)
    · rw [h] at q; exact n2 _ _ (Option.some.inj q)
theorem Sw.sqT (s : Sw a od vs H H') {b : Addr} {ws : List V} (h : SqT K H b ws) : SqT K H' b ws := by
  rcases h with (h | ⟨o, h⟩) | h
  · exact .inl (.inl (s.keep h (fun _ z => nomatch z) fun _ _ z => nomatch z))
  · exact .inl (.inr ⟨o, s.keep h (fun _ z => nomatch z) fun _ _ z => by cases z⟩)
  · exact .inr h
theorem Sw.rd (s : Sw a od vs H H') {b : Addr} {ws : List (Key × V)} (h : Rd H b (.dK ws)) : Rd H' b (.dK ws) := by
  by_cases z : b = a
  · subst z
    rw [Rd.uniq s.at_ h]
    exact s.to
  · rcases h with h | ⟨o, h⟩
    · exact .inl ((s.ne b z).trans h)
    · exact .inr ⟨o, (s.ne b z).trans h⟩
mutual
theorem Rep.sw (s : Sw a od vs H H') : ∀ {d : D} {v : V}, Rep K M H d v → Rep K M H' d v
  | .non, _, h => h
  | .bl _, _, h => h
  | .int _, _, h => h
  | .str _, _, h => h
  | .adr _, _, h => h
  | .exc _ _ _ fs, _, ⟨e, vs, h, r⟩ => ⟨e, vs, s.keep h (fun _ z => nomatch z) (fun _ _ z => nomatch z), RepF.sw s r⟩
  | .tup ds, _, ⟨a, vs, e, h, r⟩ => ⟨a, vs, e, s.sqT h, Reps.sw s r⟩
  | .lst ds, _, ⟨a, vs, e, n, h, r⟩ => ⟨a, vs, e, n, s.keep h (fun _ z => nomatch z) (fun _ _ z => nomatch z), Reps.sw s r⟩
  | .scr ds, _, ⟨a, vs, e, .inl ⟨o, h⟩, r⟩ => ⟨a, vs, e, .inl ⟨o, s.keep h (fun _ z => nomatch z) (fun _ _ z => by cases z)⟩, Reps.sw s r⟩
  | .scr ds, _, ⟨a, vs, e, .inr h, r⟩ => ⟨a, vs, e, .inr h, Reps.sw s r⟩
  | .dct kvs, _, ⟨a, vs, e, n, h, r⟩ => ⟨a, vs, e, n, s.rd h, RepK.sw s r⟩
  | .obj C fs, _, ⟨a, dx, vs, e, n, h, r⟩ => ⟨a, dx, vs, e, n, s.keep h (fun _ z => nomatch z) (fun _ _ z => nomatch z), RepF.sw s r⟩
theorem Reps.sw (s : Sw a od vs H H') : ∀ {ds : List D} {vs : List V}, Reps K M H ds vs → Reps K M H' ds vs
  | [], _, h => h
  | _ :: _, _, ⟨v, r, e, h, t⟩ => ⟨v, r, e, Rep.sw s h, Reps.sw s t⟩
theorem RepK.sw (s : Sw a od vs H H') : ∀ {ds : List (Key × D)} {vs : List (Key × V)}, RepK K M H ds vs → RepK K M H' ds vs
  | [], _, h => h
  | _ :: _, _, ⟨v, r, e, h, t⟩ => ⟨v, r, e, RepKP.sw s h, RepK.sw s t⟩
theorem RepKP.sw (s : Sw a od vs H H') : ∀ {d : Key × D} {v : Key × V}, RepKP K M H d v → RepKP K M H' d v
  | (_, _), _, ⟨e, h⟩ => ⟨e, Rep.sw s h⟩
theorem RepF.sw (s : Sw a od vs H H') : ∀ {ds : List (Str × D)} {vs : List (Str × V)}, RepF K M H ds vs → RepF K M H' ds vs
  | [], _, h => h
  | _ :: _, _, ⟨v, r, e, h, t⟩ => ⟨v, r, e, RepFP.sw s h, RepF.sw s t⟩
theorem RepFP.sw (s : Sw a od vs H H') : ∀ {d : Str × D} {v : Str × V}, RepFP K M H d v → RepFP K M H' d v
  | (_, _), _, ⟨e, h⟩ => ⟨e, Rep.sw s h⟩
end
theorem Own.sw (s : Sw a od vs H H') {d : D} {b : Addr} (n : b ≠ a) (h : Own K M H d b) : Own K M H' d b := by
  cases d with
  | lst ds => obtain ⟨ws, h, r⟩ := h; exact ⟨ws, (s.ne b n).trans h, r.sw s⟩
  | dct ds => obtain ⟨ws, h, r⟩ := h; exact ⟨ws, (s.ne b n).trans h, r.sw s⟩
  | obj C fs => obtain ⟨dx, ws, h, r⟩ := h; exact ⟨dx, ws, (s.ne b n).trans h, r.sw s⟩
  | _ => exact h.elim
end
/-- the context while a is locked -/
def Cn.lk (C : Cn) (a : Addr) (u : HO) : Cn := { C with H0 := upd C.H0 a u }
section
variable {C : Cn} {fl : List Addr} {σ : L2.St} {H : Hp} {e : En} {a : Addr} {od : Obj} {vs : List (Key × V)}
/-- a dict that is data is locked -/
theorem StR.lock (R : StR C fl σ H e) (n : ¬ Md C fl e a) (h : H a = some (.dK vs)) : StR (C.lk a (.frz od (.dK vs))) fl σ (upd H a (.frz od (.dK vs))) e := by
  have s : Sw a od vs H (upd H a (.frz od (.dK vs))) := ⟨fun b hb => upd_ne hb, .inl h, .inr ⟨od, upd_same⟩⟩
  refine ⟨R.len, fun i sl hi => ?_, R.nd, fun b hb => ?_, fun b hb => ?_, fun b o hb ho => ?_, fun b hb => ?_⟩
  · have q := R.sl i sl hi
    cases sl with
    | un => trivial
    | d x => obtain ⟨v, e1, r⟩ := q; exact ⟨v, e1, Rep.sw s r⟩
    | own b x => obtain ⟨e1, r⟩ := q; exact ⟨e1, r.sw s fun z => n (.inr (.inl (mem_owns.mpr ⟨i, x, by rw [← z]; exact hi⟩)))⟩
  · obtain ⟨o, ho, m⟩ := R.al b hb
    exact ⟨o, by rw [upd_ne fun z => n (by rw [← z]; exact hb)]; exact ho, m⟩
  · rcases R.new b hb with q | q
    · exact .inl q
    · refine .inr ?_
      show upd C.H0 a _ b = none
      rw [upd_ne fun z => n (by rw [← z]; exact .inr hb)]
      exact q
  · have hb' : upd C.H0 a (.frz od (.dK vs)) b = some o := hb
    by_cases z : b = a
    · subst z; rw [upd_same] at hb' ⊢; exact hb'
    · rw [upd_ne z] at hb' ⊢; exact R.keep b o hb' ho
  · by_cases z : b = a
    · subst z; exact ⟨_, upd_same⟩
    · rw [upd_ne z]; exact R.iot b hb
theorem CnOk.lk {u : HO} (c : CnOk C) (n : ¬ C.M0 a) : CnOk (C.lk a u) := ⟨fun b hb => by
  obtain ⟨h1, o, h2, m⟩ := c.m0 b hb
  exact ⟨h1, o, by show upd C.H0 a u b = some o; rw [upd_ne fun z => n (by rw [← z]; exact hb)]; exact h2, m⟩⟩
/-- .. and unlocked -/
theorem StR.unlock {fl0 : List Addr} {σ0 : L2.St} {H0 : Hp} {e0 : En} (R0 : StR C fl0 σ0 H0 e0) (h0 : H0 a = some (.dK vs)) (R : StR (C.lk a (.frz od (.dK vs))) fl σ H e) (h : H a = some (.frz od (.dK vs))) : StR C fl σ (upd H a (.dK vs)) e ∧ ¬ Md C fl e a := by
  have s : Sw a od vs H (upd H a (.dK vs)) := ⟨fun b hb => upd_ne hb, .inr ⟨od, h⟩, .inl upd_same⟩
  have n : ¬ Md C fl e a := fun z => by
    obtain ⟨o, ho, m⟩ := R.al a z
    rw [h] at ho
    cases ho
    exact m
  refine ⟨⟨R.len, fun i sl hi => ?_, R.nd, fun b hb => ?_, fun b hb => ?_, fun b o hb ho => ?_, fun b hb => ?_⟩, n⟩
  · have q := R.sl i sl hi
    cases sl with
    | un => trivial
    | d x => obtain ⟨v, e1, r⟩ := q; exact ⟨v, e1, Rep.sw s r⟩
    | own b x => obtain ⟨e1, r⟩ := q; exact ⟨e1, r.sw s fun z => n (.inr (.inl (mem_owns.mpr ⟨i, x, by rw [← z]; exact hi⟩)))⟩
  · obtain ⟨o, ho, m⟩ := R.al b hb
    exact ⟨o, by rw [upd_ne fun z => n (by rw [← z]; exact hb)]; exact ho, m⟩
  · rcases R.new b hb with q | q
    · exact .inl q
    · have q' : upd C.H0 a (.frz od (.dK vs)) b = none := q
      rw [upd_ne fun z => n (by rw [← z]; exact .inr hb)] at q'
      exact .inr q'
  · by_cases z : b = a
    · subst z
      have q := R0.keep b o hb ho
      rw [h0] at q
      rw [upd_same]; exact q
    · rw [upd_ne z]
      refine R.keep b o ?_ ho
      show upd C.H0 a _ b = some o
      rw [upd_ne z]; exact hb
  · by_cases z : b = a
    · subst z; exact ⟨_, upd_same⟩
    · rw [upd_ne z]; exact R.iot b hb
end
end DL
set_option maxHeartbeats 4000000
namespace DL
open PySem PySem.Spec PyProof.Rows L2
def keyOfD : Key → D
  | .inl n => .int n
  | .inr x => .str x
theorem rep_key {K : PySem.W.Frag} {M : Addr → Prop} {H : Hp} (k : Key) : Rep K M H (keyOfD k) (kV k) := by cases k <;> rfl
def slotDct (e : En) (i : Nat) (k : List (Key × D) → Prop) : Prop := match e[i]? with
  | some (.d (.dct kvs)) => k kvs
  | some (.own _ (.dct kvs)) => k kvs
  | _ => False
theorem slotDct_of {e : En} {i : Nat} {k : List (Key × D) → Prop} (h : slotDct e i k) : ∃ kvs, k kvs ∧ (e[i]? = some (.d (.dct kvs)) ∨ ∃ a, e[i]? = some (.own a (.dct kvs))) := by
  unfold slotDct at h
  split at h
  · rename_i kvs h1; exact ⟨kvs, h, .inl h1⟩
  · rename_i a kvs h1; exact ⟨kvs, h, .inr ⟨a, h1⟩⟩
  · exact h.elim
/-- the names of a dict that stands at place i -/
def mKeysV (i : Nat) : MI := fun e Q _ => match e[i]? with
  | some (.d (.dct kvs)) => Q (kvs.map fun kv => keyOfD kv.1) e
  | _ => False
def mLcK (i : Nat) (g : MG) (tt : MT) (te : ME) (vs : List Nat) : ME := fun e Q W => slotDct e i fun kvs => mLc (mKeysV i) g tt te vs (e.set i (.d (.dct kvs))) Q W
theorem _root_.L2.PE.or {X : Cx} {e : Expr} {t u : TE} (h : PE X e t) (h' : PE X e u) : PE X e (fun σ H Q => t σ H Q ∨ u σ H Q) := ⟨fun pins s σ H Q I q => q.elim (h.run pins s σ H Q I) (h'.run pins s σ H Q I)⟩
theorem itOk_keys {K : PySem.W.Frag} {M : Addr → Prop} {H : Hp} {a : Addr} {od : Obj} {kvs : List (Key × D)} {vs : List (Key × V)} (h : H a = some (.frz od (.dK vs))) (r : RepK K M H kvs vs) : ItOk K (Itk a od vs) (kvs.map fun kv => keyOfD kv.1) M H where
  go := fun M2 H2 l i d hd => by
    have hq := l.keep _ _ h (.inr fun z => z)
    rw [List.getElem?_map] at hd
    obtain ⟨kd, hkd, rfl⟩ := Option.map_eq_some_iff.mp hd
    have hl : i < kvs.length := (List.getElem?_eq_some_iff.mp hkd).1
    have ek := repK_keys r
    have hlen : vs.length = kvs.length := by have := congrArg List.length ek; simpa using this
    refine ⟨⟨hq, by omega⟩, fun x H3 y => ?_⟩
    obtain ⟨e, k, v, hv, ex⟩ := y
    subst e
    subst ex
    refine ⟨fun _ _ z => z, ?_⟩
    have e1 : (vs.map (·.1))[i]? = some k := by rw [List.getElem?_map, hv]; rfl
    rw [ek, List.getElem?_map, hkd] at e1
    rw [show kd.1 = k from Option.some.inj e1]
    exact rep_key k
  stop := fun M2 H2 l => ⟨l.keep _ _ h (.inr fun z => z), by
    have hlen : vs.length = kvs.length := by have := congrArg List.length (repK_keys r); simpa using this
    rw [List.length_map]; omega⟩
section
variable {X : Cx} {pos : Pos}
theorem keys_in {K : PySem.W.Frag} {i : Nat} {gt : TG} {tt : TT} {te : TE} {vs0 : List Nat} {σ : L2.St} {H : Hp} {R : VK} {d : Addr} {od : Obj} {vs : List (Key × V)} (hs : σ[i]? = some (some (.ref d))) (hd : H d = some (.frz od (.dK vs)))
    (h : tLc (cI K (fun _ _ _ _ => False) (mKeysV i)) gt tt te vs0 σ H R) : tLc (iKeys (tVar i)) gt tt te vs0 σ H R := by
  obtain ⟨C, fl, e, Q, WD, G, ht, kk⟩ := h
  refine ⟨.ref d, hs, d, od, rfl, .inl ⟨vs, hd, ?_⟩⟩
  unfold mKeysV at ht
  split at ht
  · rename_i kvs hi
    obtain ⟨v, hv, rp⟩ := G.st.get hi
    have ev : v = .ref d := by rw [hs] at hv; exact (Option.some.inj (Option.some.inj hv)).symm
    subst ev
    obtain ⟨a, ws, ea, n, hr, rk⟩ := rp
    cases ea
    have := Rd.uniq (.inr ⟨od, hd⟩) hr
    subst this
    rw [G.k] at rk
    exact kk _ e H _ G.st .refl (itOk_keys hd rk) ht
  · exact ht.elim
theorem slot_lock {K : PySem.W.Frag} {W : WX} {C : Cn} {fl : List Addr} {σ : L2.St} {H : Hp} {e : En} {WD : WE} {i : Nat} {kvs : List (Key × D)} (G : Gd K W C fl σ H e WD) (hi : e[i]? = some (.d (.dct kvs)) ∨ ∃ a, e[i]? = some (.own a (.dct kvs))) :
    ∃ d vs, σ[i]? = some (some (.ref d)) ∧ Rd H d (.dK vs) ∧ StR C fl σ H (e.set i (.d (.dct kvs))) ∧ ¬ Md C fl (e.set i (.d (.dct kvs))) d ∧ Later fl (Md C fl e) H (Md C fl (e.set i (.d (.dct kvs)))) H ∧ ((∃ b, e[i]? = some (.own b (.dct kvs))) → H d = some (.dK vs)) := by
  rcases hi with hi | ⟨a, hi⟩
  · obtain ⟨v, hv, a, vs, rfl, n, hr, rk⟩ := G.st.get hi
    have he : e.set i (.d (.dct kvs)) = e := by
      refine List.ext_getElem? fun j => ?_
      by_cases q : j = i
      · subst q
        rw [List.getElem?_set_self (List.getElem?_eq_some_iff.mp hi).1, hi]
      · rw [List.getElem?_set_ne (Ne.symm q)]
    rw [he]
    exact ⟨a, vs, hv, hr, G.st, n, .refl, fun ⟨b, hb⟩ => by rw [hi] at hb; cases hb⟩
  · obtain ⟨hv, vs, hr, rk⟩ := G.st.getO hi
    obtain ⟨R2, l2, a', ws, ea, n, hr2, _⟩ := G.st.freeze G.ok hi
    cases ea
    exact ⟨a, vs, hv, .inl hr, R2, n, l2, fun _ => hr⟩
theorem lcK_ok {K : PySem.W.Frag} {W : WX} {i : Nat} {g : MG} {gt : TG} {tt : MT} {te : ME} {vs0 : List Nat} (gk : GOk g gt vs0) {σ : L2.St} {H : Hp} {R : VK} (h : cF K W (mLcK i g tt te vs0) σ H R) :
    tLockE (tLc (iKeys (tVar i)) gt (cT K (fun _ _ _ _ => False) tt) (cE K (fun _ _ _ _ => False) te) vs0) σ H R ∨ tLc (iKeys (tVar i)) gt (cT K (fun _ _ _ _ => False) tt) (cE K (fun _ _ _ _ => False) te) vs0 σ H R := by
  obtain ⟨C, fl, e, Q, WD, G, hh, kk⟩ := h
  obtain ⟨kvs, hh, hi⟩ := slotDct_of hh
  obtain ⟨d, vs, hs, hr, R2, n, l2, hown⟩ := slot_lock G hi
  rcases hr with hr | ⟨od, hr⟩
  · refine .inl ⟨d, .dK vs, hr, trivial, fun od => ?_⟩
    have R3 := R2.lock (od := od) n hr
    have n0 : ¬ C.M0 d := fun z => n (.inl z)
    have G3 : Gd K (fun _ _ _ _ => False) (C.lk d (.frz od (.dK vs))) fl σ (upd H d (.frz od (.dK vs))) (e.set i (.d (.dct kvs))) W0 := ⟨G.k, G.ok.lk n0, R3, fun _ _ _ _ _ _ _ _ _ _ z => z⟩
    refine keys_in hs upd_same (lc_ok gk ⟨C.lk d (.frz od (.dK vs)), fl, _, Q, W0, G3, hh, fun x e4 b H4 R4 l4 o4 q4 => ?_⟩)
    have h4 : H4 d = some (.frz od (.dK vs)) := l4.keep _ _ upd_same (.inr fun z => z)
    obtain ⟨R5, n5⟩ := R2.unlock hr R4 h4
    have s : Sw d od vs H4 (upd H4 d (.dK vs)) := ⟨fun b hb => upd_ne hb, .inr ⟨od, h4⟩, .inl upd_same⟩
    have nb : b ≠ d := fun z => n5 (.inr (.inr (by rw [z]; exact List.mem_cons_self)))
    refine ⟨h4, kk x e4 b (upd H4 d (.dK vs)) R5 (l2.trans ⟨fun c hc => ?_, fun c o hc q => ?_, fun c hc => ?_⟩) (o4.sw s nb) q4⟩
    · rcases l4.own c hc with q | q
      · exact .inl q
      · by_cases z : c = d
        · subst z; rw [upd_same] at q; cases q
        · rw [upd_ne z] at q; exact .inr q
    · by_cases z : c = d
      · subst z
        rw [hr] at hc
        rw [upd_same]; exact hc
      · rw [upd_ne z]
        exact l4.keep c o (by rw [upd_ne z]; exact hc) q
    · have z : c ≠ d := fun z => n (.inr (.inr (by rw [← z]; exact hc)))
      rw [upd_ne z, l4.fix c hc, upd_ne z]
  · refine .inr ?_
    have G3 : Gd K (fun _ _ _ _ => False) C fl σ H (e.set i (.d (.dct kvs))) W0 := ⟨G.k, G.ok, R2, fun _ _ _ _ _ _ _ _ _ _ z => z⟩
    exact keys_in hs hr (lc_ok gk ⟨C, fl, _, Q, W0, G3, hh, fun x e4 b H4 R4 l4 o4 q4 => kk x e4 b H4 R4 (l2.trans l4) o4 q4⟩)
theorem rf_lcK {i : Nat} {xn : Str} {ip : Pos} {elt tg : Expr} {scope : Scope} {own : List (Str × Nat)} {ifs : List Expr} {g : MG} {gt : TG} {tt : MT} {te : ME} (hc : X.calm = true) (hN : X.N.Nodup) (hi : PE X (.Name xn ip) (tVar i)) (ok : BlkOk X.N X.env.scope scope own)
    (hg : ∀ (s : Shared) (H : Hp) (C : Addr) (cl : List (Str × Addr)) (fp : List Addr), PG (X.blk s H scope (compEnvC scope cl C X.env) fp) tg gt) (gk : GOk g gt (own.map (·.2)))
    (ht : ∀ (s : Shared) (H : Hp) (C : Addr) (cl : List (Str × Addr)) (fp : List Addr), RTs (X.blk s H scope (compEnvC scope cl C X.env) fp) ifs tt)
    (he : ∀ (s : Shared) (H : Hp) (C : Addr) (cl : List (Str × Addr)) (fp : List Addr), RE (X.blk s H scope (compEnvC scope cl C X.env) fp) elt te) (hs : ∀ x, foldedSetIterable (.Name xn ip) X.env x = pure x := by intro _; rfl) :
    RF X (.ListComp elt [⟨tg, .Name xn ip, ifs, 0⟩] scope pos) (mLcK i g tt te (own.map (·.2))) :=
  ⟨fun W tk => by
    have h := pe_lc (pos := pos) (tt := cT X.K (fun _ _ _ _ => False) tt) (te := cE X.K (fun _ _ _ _ => False) te) hc hN (pi_keys hi) ok hg (fun s H C cl fp => (ht s H C cl fp).run (fun _ _ _ _ => False) takes0) (fun s H C cl fp => (he s H C cl fp).run (fun _ _ _ _ => False) takes0) hs
    exact ((pe_lock h).or h).of fun σ H R h => lcK_ok gk h⟩
end
end DL
set_option maxHeartbeats 4000000
namespace DL
open PySem PySem.Spec PyProof.Rows L2
/-! ### self.f1 = {}, self.f2 = {}, for n1, n2, n3 in ts: self.f1[n1] = n2, self.f2[n1] = n3 -/
theorem StR.putFl' {C : Cn} {fl : List Addr} {σ : L2.St} {H : Hp} {e : En} {a : Addr} {o u : HO} (R : StR C fl σ H e) (hf : a ∈ fl) (h : H a = some u) (m : MutO o) : StR C fl σ (upd H a o) e := by
  have hm : Md C fl e a := .inr (.inr hf)
  obtain ⟨oa, hoa, ma⟩ := R.al a hm
  have lp : Later [] (Md C fl e) H (Md C fl e) (upd H a o) := later_put hm ⟨oa, hoa, ma⟩
  have na : a ∉ owns e := fun z => (List.nodup_append.mp R.nd).2.2 a z a hf rfl
  refine ⟨R.len, fun i s hi => (R.sl i s hi).later lp fun b x z => ?_, R.nd, fun b hb => ?_, R.new, fun b w hb n => ?_, fun b hb => ?_⟩
  · subst z
    exact upd_ne fun z => na (z ▸ ownOf hi)
  · by_cases z : b = a
    · subst z
      exact ⟨o, upd_same, m⟩
    · rw [upd_ne z]
      exact R.al b hb
  · rw [upd_ne fun z => ?_]
    · exact R.keep b w hb n
    · subst z
      rcases R.new b (.inr hf) with q | q
      · exact n q
      · rw [hb] at q; cases q
  · by_cases z : b = a
    · subst z
      exact ⟨o, upd_same⟩
    · rw [upd_ne z]
      exact R.iot b hb
theorem set_same_get {α : Type} {l : List α} {i : Nat} {x : α} (h : l[i]? = some x) : l.set i x = l := by
  refine List.ext_getElem? fun j => ?_
  by_cases q : j = i
  · subst q
    rw [List.getElem?_set_self (List.getElem?_eq_some_iff.mp h).1, h]
  · rw [List.getElem?_set_ne (Ne.symm q)]
/-- fields where a place-holder is filled in -/
inductive FsUp (K : PySem.W.Frag) (M : Addr → Prop) (H : Hp) : List (Str × D) → List (Str × D) → Prop
  | nil : FsUp K M H [] []
  | same {p : Str × D} {fs gs} : FsUp K M H fs gs → FsUp K M H (p :: fs) (p :: gs)
  | fill {f : Str} {u : V} {d : D} {fs gs} : Rep K M H d u → FsUp K M H fs gs → FsUp K M H ((f, .adr u) :: fs) ((f, d) :: gs)
theorem FsUp.refl {K : PySem.W.Frag} {M : Addr → Prop} {H : Hp} : ∀ {fs : List (Str × D)}, FsUp K M H fs fs
  | [] => .nil
  | _ :: _ => .same FsUp.refl
theorem FsUp.rep {K : PySem.W.Frag} {M : Addr → Prop} {H : Hp} {fs gs : List (Str × D)} (h : FsUp K M H fs gs) : ∀ {vs : List (Str × V)}, RepF K M H fs vs → RepF K M H gs vs := by
  induction h with
  | nil => exact fun h => h
  | same _ ih => exact fun ⟨v, r, e, h, t⟩ => ⟨v, r, e, h, ih t⟩
  | fill rd _ ih => exact fun ⟨v, r, e, ⟨h1, h2⟩, t⟩ => ⟨v, r, e, ⟨h1, by rw [show v.2 = _ from h2]; exact rd⟩, ih t⟩
theorem FsUp.put {K : PySem.W.Frag} {M : Addr → Prop} {H : Hp} {f : Str} {x y : D} (hxy : x = y ∨ ∃ u, x = .adr u ∧ Rep K M H y u) {fs gs : List (Str × D)} (h : FsUp K M H fs gs) : FsUp K M H (putFD f x fs) (putFD f y gs) := by
  have one : ∀ {fs gs : List (Str × D)}, FsUp K M H fs gs → FsUp K M H ((f, x) :: fs) ((f, y) :: gs) := fun h => by
    rcases hxy with rfl | ⟨u, rfl, r⟩
    · exact .same h
    · exact .fill r h
  induction h with
  | nil => exact one .nil
  | @same p fs gs h ih =>
    obtain ⟨g, d⟩ := p
    unfold putFD
    by_cases q : g = f
    · rw [if_pos q, if_pos q, q]; exact one h
    · rw [if_neg q, if_neg q]; exact .same ih
  | @fill g u d fs gs r h ih =>
    unfold putFD
    by_cases q : g = f
    · rw [if_pos q, if_pos q, q]; exact one h
    · rw [if_neg q, if_neg q]; exact .fill r ih
theorem lookup_putFD (f g : Str) (v : D) : ∀ fs : List (Str × D), (putFD f v fs).lookup g = if g = f then some v else fs.lookup g
  | [] => by
    unfold putFD
    rw [List.lookup_cons]
    by_cases h : g = f
    · simp [h]
    · have : (g == f) = false := by simpa using h
      rw [this, if_neg h]
  | (k, x) :: r => by
    unfold putFD
    by_cases q : k = f
    · rw [if_pos q, List.lookup_cons, List.lookup_cons, q]
      by_cases h : g = f
      · simp [h]
      · have : (g == f) = false := by simpa using h
        rw [this, if_neg h]
    · rw [if_neg q, List.lookup_cons, List.lookup_cons, lookup_putFD f g v r]
      by_cases h : g = k
      · have h2 : g ≠ f := fun z => q (h ▸ z)
        simp [h, q]
      · have : (g == k) = false := by simpa using h
        rw [this]
def wipe3 (n1 n2 n3 : Nat) (e : En) : En := ((e.set n1 .un).set n2 .un).set n3 .un
theorem wipe3_get {n1 n2 n3 i : Nat} {e : En} (h1 : i ≠ n1) (h2 : i ≠ n2) (h3 : i ≠ n3) : (wipe3 n1 n2 n3 e)[i]? = e[i]? := by
  unfold wipe3
  rw [List.getElem?_set_ne (Ne.symm h3), List.getElem?_set_ne (Ne.symm h2), List.getElem?_set_ne (Ne.symm h1)]
theorem wipe3_set {n1 n2 n3 : Nat} {e : En} {x y z : Slot} (h12 : n1 ≠ n2) (h13 : n1 ≠ n3) (h23 : n2 ≠ n3) : wipe3 n1 n2 n3 (((e.set n1 x).set n2 y).set n3 z) = wipe3 n1 n2 n3 e := by
  refine List.ext_getElem? fun i => ?_
  unfold wipe3
  simp only [List.getElem?_set, List.length_set]
  by_cases q3 : n3 = i
  · simp [q3]
  · by_cases q2 : n2 = i
    · simp [q2, q3]
    · by_cases q1 : n1 = i
      · simp [q1, q2, q3]
      · simp [q1, q2, q3]
/-- rows of the table list: the dicts they give -/
def fillP : List D → List (Key × D) → List (Key × D)
  | .tup [.str nm, p, _] :: r, k => fillP r (dPut k (.inr nm) p)
  | _, k => k
def fillE : List D → List (Key × D) → List (Key × D)
  | .tup [.str nm, _, es] :: r, k => fillE r (dPut k (.inr nm) es)
  | _, k => k
def isRow : D → Prop
  | .tup [.str _, _, _] => True
  | _ => False
theorem isRow_of {d : D} (h : isRow d) : ∃ nm p es, d = .tup [.str nm, p, es] := by
  unfold isRow at h
  split at h
  · exact ⟨_, _, _, rfl⟩
  · exact h.elim
def mFill (Ca : Addr) (i0 j n1 n2 n3 : Nat) (f1 f2 : Str) : MS := fun M e _ => ∃ a fs rows, e[i0]? = some (.own a (.obj Ca fs)) ∧ e[j]? = some (.d (.tup rows)) ∧ (∀ d ∈ rows, isRow d) ∧ rows.length < 1000 ∧ fs.length < 900 ∧ n1 < e.length ∧ n2 < e.length ∧ n3 < e.length ∧
  M.nx (wipe3 n1 n2 n3 (e.set i0 (.own a (.obj Ca (putFD f2 (.dct (fillE rows [])) (putFD f1 (.dct (fillP rows [])) fs))))))
end DL
set_option maxHeartbeats 4000000
namespace DL
open PySem PySem.Spec PyProof.Rows L2
/-- a floating dict is stored into a field of an owned object -/
theorem StR.fldA {C : Cn} {fl : List Addr} {σ : L2.St} {H : Hp} {e : En} {i : Nat} {a Ca dx d : Addr} {f : Str} {fs : List (Str × D)} {vs : List (Str × V)} (c : CnOk C) (R : StR C fl σ H e) (hi : e[i]? = some (.own a (.obj Ca fs))) (ha : H a = some (.ins Ca dx vs)) (rf : RepF C.K (Md C fl e) H fs vs) :
    StR C fl σ (upd H a (.ins Ca dx (putF f (.ref d) vs))) (e.set i (.own a (.obj Ca (putFD f (.adr (.ref d)) fs)))) ∧ RepF C.K (Md C fl (e.set i (.own a (.obj Ca (putFD f (.adr (.ref d)) fs))))) (upd H a (.ins Ca dx (putF f (.ref d) vs))) (putFD f (.adr (.ref d)) fs) (putF f (.ref d) vs) := by
  have hm : Md C fl e a := .inr (.inl (ownOf hi))
  have lp : Later [] (Md C fl e) H (Md C fl e) (upd H a (.ins Ca dx (putF f (.ref d) vs))) := later_put hm ⟨_, ha, trivial⟩
  have r1 : RepF C.K (Md C fl e) (upd H a (.ins Ca dx (putF f (.ref d) vs))) (putFD f (.adr (.ref d)) fs) (putF f (.ref d) vs) := (rf.put (d := .adr (.ref d)) rfl).later lp
  obtain ⟨R2, l2⟩ := R.put (o := .ins Ca dx (putF f (.ref d) vs)) (y := .obj Ca (putFD f (.adr (.ref d)) fs)) hi trivial ⟨dx, _, upd_same, r1⟩
  refine ⟨R2, r1.later (.same fun b hb => ?_)⟩
  have ow := owns_set_same (y := .obj Ca (putFD f (.adr (.ref d)) fs)) hi
  rcases hb with hb | hb | hb
  · exact .inl hb
  · rw [ow] at hb; exact .inr (.inl hb)
  · exact .inr (.inr hb)
/-- what stays true through the loop -/
structure FillI (C : Cn) (σ : L2.St) (H : Hp) (e : En) (d1 d2 a Ca ta i0 j : Nat) (fs2 : List (Str × D)) (k1 k2 : List (Key × D)) (rows : List D) : Prop where
  R : StR C [d2, d1] σ H e
  k1 : ∃ v1, H d1 = some (.dK v1) ∧ RepK C.K (Md C [d2, d1] e) H k1 v1
  k2 : ∃ v2, H d2 = some (.dK v2) ∧ RepK C.K (Md C [d2, d1] e) H k2 v2
  self : e[i0]? = some (.own a (.obj Ca fs2))
  ta : σ[j]? = some (some (.ref ta))
  rows : e[j]? = some (.d (.tup rows))
section
variable {X : Cx} {Ca i0 j n1 n2 n3 : Nat} {f1 f2 : Str} {o1 o2 o3 o4 tb tg x1 x2 y2 y3 : Expr} {p1 p2 p3 p4 q1 q2 q3 q4 r1 r2 r3 r4 r5 : Pos}
theorem fill_put {C : Cn} {σ : L2.St} {H : Hp} {e : En} {fl : List Addr} {d d' : Addr} {kv kv' : List (Key × D)} {v1 v2 : List (Key × V)} {k : Key} {x : D} {v : V} (R : StR C fl σ H e) (hf : d ∈ fl) (hne : d' ≠ d) (h1 : H d = some (.dK v1)) (rk : RepK C.K (Md C fl e) H kv v1) (h2 : H d' = some (.dK v2)) (rk2 : RepK C.K (Md C fl e) H kv' v2) (rv : Rep C.K (Md C fl e) H x v) :
    StR C fl σ (upd H d (.dK (putK v1 k v))) e ∧ RepK C.K (Md C fl e) (upd H d (.dK (putK v1 k v))) (dPut kv k x) (putK v1 k v) ∧ (upd H d (.dK (putK v1 k v))) d' = some (.dK v2) ∧ RepK C.K (Md C fl e) (upd H d (.dK (putK v1 k v))) kv' v2 := by
  have hm : Md C fl e d := .inr (.inr hf)
  have lp : Later [] (Md C fl e) H (Md C fl e) (upd H d (.dK (putK v1 k v))) := later_put hm ⟨_, h1, trivial⟩
  exact ⟨R.putFl' hf h1 trivial, (rk.put rv).later lp, by rw [upd_ne hne]; exact h2, rk2.later lp⟩
theorem putFD_len (f : Str) (d : D) : ∀ fs : List (Str × D), (putFD f d fs).length ≤ fs.length + 1
  | [] => Nat.le_refl _
  | (g, x) :: r => by
    unfold putFD
    split
    · simp
    · have := putFD_len f d r
      simp only [List.length_cons]; omega
theorem dPut_len (kv : List (Key × D)) (k : Key) (d : D) : (dPut kv k d).length ≤ kv.length + 1 := by
  unfold dPut
  split
  · simp
  · simp
theorem rss_fill (c : Cls X.K Ca) (nf1 : NoAttr X.K Ca f1) (nf2 : NoAttr X.K Ca f2) (hf : f1 ≠ f2) (hu : X.A.units + 1 < cLine) (hp : PassesOwn (model X.prog X.w) X.A X.env X.xe) (hc : X.calm = true)
    (h12 : n1 ≠ n2) (h13 : n1 ≠ n3) (h23 : n2 ≠ n3) (hi1 : i0 ≠ n1) (hi2 : i0 ≠ n2) (hi3 : i0 ≠ n3) (hj1 : j ≠ n1) (hj2 : j ≠ n2) (hj3 : j ≠ n3) (hij : i0 ≠ j)
    (po1 : PE X o1 (tVar i0)) (po2 : PE X o2 (tVar i0)) (po3 : PE X o3 (tVar i0)) (po4 : PE X o4 (tVar i0)) (pt : PE X tb (tVar j)) (pg : PG X tg (gTup X.K 3 (gCons (gName n1) (gCons (gName n2) (gCons (gName n3) gNil)))))
    (px1 : PE X x1 (tVar n1)) (px2 : PE X x2 (tVar n1)) (py2 : PE X y2 (tVar n2)) (py3 : PE X y3 (tVar n3))
    (hs1 : swapsWith (.Dict [] [] q1) (some (.Attribute o1 f1 p1)) r1.line X.env = pure false) (hs2 : swapsWith (.Dict [] [] q2) (some (.Attribute o2 f2 p2)) r2.line X.env = pure false)
    (hs3 : swapsWith y2 (some (.Subscript (.Attribute o3 f1 p3) x1 q3)) r3.line X.env = pure false) (hs4 : swapsWith y3 (some (.Subscript (.Attribute o4 f2 p4) x2 q4)) r4.line X.env = pure false)
    (hb3 : attributeBase o3 f1 X.env (eval o3 X.env) = eval o3 X.env) (hb4 : attributeBase o4 f2 X.env (eval o4 X.env) = eval o4 X.env) (hfs : ∀ x, foldedSetIterable tb X.env x = pure x) :
    RSs X [.Assign [.Attribute o1 f1 p1] (.Dict [] [] q1) r1, .Assign [.Attribute o2 f2 p2] (.Dict [] [] q2) r2,
      .For tg tb [.Assign [.Subscript (.Attribute o3 f1 p3) x1 q3] y2 r3, .Assign [.Subscript (.Attribute o4 f2 p4) x2 q4] y3 r4] [] r5] (mFill Ca i0 j n1 n2 n3 f1 f2) := ⟨fun W tk => by
  have body := pss_cons (ps_dput hu (pe_fld po3 hb3) px1 py2 hs3) (pss_one (ps_dput hu (pe_fld po4 hb4) px2 py3 hs4))
  refine (pss_cons (ps_fld po1 pe_dnewK hs1) (pss_cons (ps_fld po2 pe_dnewK hs2) (pss_one (ps_for hp hc (pi_seq pt) pg body hfs)))).of fun D σ H ⟨C, e, MD, WD, G, ⟨a, fs, rows, hi, hj, hrows, hrl, hfl, hl1, hl2, hl3, hq⟩, nx, _, _, _⟩ => ?_
  have ck := G.k
  have hNx : ∀ {fl' : List Addr} {σ' : L2.St} {H' : Hp} {e' : En} {n : Nat}, StR C fl' σ' H' e' → n < e'.length → n < σ'.length := fun R h => by rw [← R.len]; exact h
  unfold tSeq
  intro d1 hd1
  -- the first dict
  obtain ⟨R1, l1⟩ := G.st.float G.ok (o := .dK []) hd1 trivial
  obtain ⟨es, dx, vs, ha, rf⟩ := R1.getO hi
  refine ⟨.ref a, es, a, Ca, dx, vs, rfl, ha, c, nf1, by rw [← rf.length]; omega, ?_⟩
  obtain ⟨R2, rf2⟩ := R1.fldA (f := f1) (d := d1) G.ok hi ha rf
  intro d2 hd2
  obtain ⟨R3, l3⟩ := R2.float G.ok (o := .dK []) hd2 trivial
  have hlt : i0 < e.length := (List.getElem?_eq_some_iff.mp hi).1
  have hi2' : (e.set i0 (.own a (.obj Ca (putFD f1 (.adr (.ref d1)) fs))))[i0]? = some (.own a (.obj Ca (putFD f1 (.adr (.ref d1)) fs))) := List.getElem?_set_self hlt
  have nd2a : a ≠ d2 := fun z => by rw [← z, upd_same] at hd2; cases hd2
  have nd1a : a ≠ d1 := fun z => by rw [z, upd_same] at ha; cases ha
  have nd12 : d1 ≠ d2 := fun z => by rw [← z, upd_ne nd1a.symm, upd_same] at hd2; cases hd2
  refine ⟨.ref a, (R3.getO hi2').1, a, Ca, dx, putF f1 (.ref d1) vs, rfl, by rw [upd_ne nd2a, upd_same], c, nf2, by rw [← (rf.put (f := f1) (d := .adr (.ref d1)) (v := .ref d1) rfl).length]; have := putFD_len f1 (.adr (.ref d1)) fs; omega, ?_⟩
  have ha3 : (upd (upd (upd H d1 (.dK [])) a (.ins Ca dx (putF f1 (.ref d1) vs))) d2 (.dK [])) a = some (.ins Ca dx (putF f1 (.ref d1) vs)) := by rw [upd_ne nd2a, upd_same]
  obtain ⟨R4, rf4⟩ := R3.fldA (f := f2) (d := d2) G.ok hi2' ha3 (rf2.later l3)
  rw [List.set_set] at R4 rf4
  generalize hH : upd (upd (upd (upd H d1 (.dK [])) a (.ins Ca dx (putF f1 (.ref d1) vs))) d2 (.dK [])) a (.ins Ca dx (putF f2 (.ref d2) (putF f1 (.ref d1) vs))) = H4 at R4 rf4 ⊢
  have hd1' : H4 d1 = some (.dK []) := by rw [← hH, upd_ne nd1a.symm, upd_ne nd12, upd_ne nd1a.symm, upd_same]
  have hd2' : H4 d2 = some (.dK []) := by rw [← hH, upd_ne nd2a.symm, upd_same]
  generalize hfs2 : putFD f2 (.adr (.ref d2)) (putFD f1 (.adr (.ref d1)) fs) = fs2 at R4 rf4
  generalize he4 : e.set i0 (.own a (.obj Ca fs2)) = e4 at R4 rf4
  have hlk1 : fs2.lookup f1 = some (.adr (.ref d1)) := by rw [← hfs2, lookup_putFD, if_neg hf, lookup_putFD, if_pos rfl]
  have hlk2 : fs2.lookup f2 = some (.adr (.ref d2)) := by rw [← hfs2, lookup_putFD, if_pos rfl]
  have hj4 : e4[j]? = some (.d (.tup rows)) := by rw [← he4, List.getElem?_set_ne hij]; exact hj
  have hi4 : e4[i0]? = some (.own a (.obj Ca fs2)) := by rw [← he4]; exact List.getElem?_set_self hlt
  obtain ⟨tv, htv, ta, tvs, etv, hsq, hreps⟩ := R4.get hj4
  subst etv
  refine ⟨.ref ta, htv, ta, rfl, .inr ⟨⟨tvs, by rw [← ck]; exact hsq⟩, ?_⟩⟩
  refine ⟨fun i m σ2 H2 => i ≤ rows.length ∧ m = rows.length - i ∧ ∃ e2 k1 k2, FillI C σ2 H2 e2 d1 d2 a Ca ta i0 j fs2 k1 k2 rows ∧ wipe3 n1 n2 n3 e2 = wipe3 n1 n2 n3 e4 ∧ k1.length ≤ i ∧ k2.length ≤ i ∧ fillP (rows.drop i) k1 = fillP rows [] ∧ fillE (rows.drop i) k2 = fillE rows [],
    ⟨rows.length, Nat.zero_le _, rfl, e4, [], [], ⟨R4, ⟨[], hd1', rfl⟩, ⟨[], hd2', rfl⟩, hi4, htv, hj4⟩, rfl, Nat.le_refl _, Nat.le_refl _, rfl, rfl⟩, ?_⟩
  rintro i m σ2 H2 ⟨hile, rfl, e2, k1, k2, F, hw, hk1, hk2, hP, hE⟩
  obtain ⟨tv2, htv2, ta2, tvs2, etv2, hsq2, hreps2⟩ := F.R.get F.rows
  have eta : ta2 = ta := by
    have z := F.ta
    rw [htv2, etv2] at z
    cases z; rfl
  rw [eta] at hsq2
  by_cases hil : i < rows.length
  · right
    have hri : rows[i]? = some rows[i] := List.getElem?_eq_getElem hil
    obtain ⟨nm, pl, es', hrow⟩ := isRow_of (hrows rows[i] (List.getElem_mem hil))
    obtain ⟨vi, hvi, rvi⟩ := hreps2.get hri
    refine ⟨⟨tvs2, vi, by rw [← ck]; exact hsq2, hvi⟩, fun σ3 H3 => ∃ e3 k1' k2', FillI C σ3 H3 e3 d1 d2 a Ca ta i0 j fs2 k1' k2' rows ∧ wipe3 n1 n2 n3 e3 = wipe3 n1 n2 n3 e4 ∧ k1'.length ≤ i + 1 ∧ k2'.length ≤ i + 1 ∧ fillP (rows.drop (i + 1)) k1' = fillP rows [] ∧ fillE (rows.drop (i + 1)) k2' = fillE rows [],
      fun σ3 H3 h3 => ⟨rows.length - (i + 1), by omega, by omega, rfl, h3⟩, fun x H3 y => ?_⟩
    obtain ⟨eH, yx⟩ := y
    subst eH
    obtain rfl : vi = x := Option.some.inj (hvi.symm.trans (yx tvs2 (by rw [← ck]; exact hsq2)))
    rw [hrow] at rvi
    obtain ⟨at_, tv3, rfl, hsq3, ⟨v1, vr1, rfl, rv1, v2, vr2, rfl, rv2, v3, vr3, rfl, rv3, rfl⟩⟩ := rvi
    refine ⟨at_, [v1, v2, v3], rfl, by rw [← ck]; exact hsq3, rfl, v1, [v2, v3], rfl, v2, [v3], rfl, v3, [], rfl, rfl, ?_⟩
    -- the names are bound
    have S1 := F.R.setD (i := n1) rv1
    have S2 := S1.setD (i := n2) (rv2.later (.same less_setD))
    have S3 := S2.setD (i := n3) ((rv3.later (.same less_setD)).later (.same less_setD))
    obtain rfl : v1 = .str nm := rv1
    generalize hσ3 : ((σ2.set n1 (some (V.str nm))).set n2 (some v2)).set n3 (some v3) = σ3 at S3 ⊢
    generalize he3 : ((e2.set n1 (.d (.str nm))).set n2 (.d pl)).set n3 (.d es') = e3 at S3
    have elen : e2.length = e4.length := by have := congrArg List.length hw; simpa [wipe3] using this
    have gx : ∀ i', i' ≠ n1 → i' ≠ n2 → i' ≠ n3 → e3[i']? = e2[i']? := fun i' a1 a2 a3 => by rw [← he3, List.getElem?_set_ne (Ne.symm a3), List.getElem?_set_ne (Ne.symm a2), List.getElem?_set_ne (Ne.symm a1)]
    have gs : ∀ i', i' ≠ n1 → i' ≠ n2 → i' ≠ n3 → σ3[i']? = σ2[i']? := fun i' a1 a2 a3 => by rw [← hσ3, List.getElem?_set_ne (Ne.symm a3), List.getElem?_set_ne (Ne.symm a2), List.getElem?_set_ne (Ne.symm a1)]
    have lessM : ∀ b, Md C [d2, d1] e3 b → Md C [d2, d1] e2 b := fun b hb => by
      rw [← he3] at hb
      exact less_setD _ (less_setD _ (less_setD _ hb))
    have lsame : Later [] (Md C [d2, d1] e2) H3 (Md C [d2, d1] e3) H3 := .same lessM
    obtain ⟨w1, hw1, rk1⟩ := F.k1
    obtain ⟨w2, hw2, rk2⟩ := F.k2
    have hself3 : e3[i0]? = some (.own a (.obj Ca fs2)) := by rw [gx i0 hi1 hi2 hi3]; exact F.self
    obtain ⟨es3, dx3, vs3, ha3', rf3⟩ := S3.getO hself3
    have hn2 : σ3[n2]? = some (some v2) := by
      have hlen : n2 < σ2.length := by rw [← F.R.len, elen, ← he4]; simpa using hl2
      rw [← hσ3, List.getElem?_set_ne (Ne.symm h23), List.getElem?_set_self (by simpa using hlen)]
    have hn3 : σ3[n3]? = some (some v3) := by
      have hlen : n3 < σ2.length := by rw [← F.R.len, elen, ← he4]; simpa using hl3
      rw [← hσ3, List.getElem?_set_self (by simpa using hlen)]
    have hn1 : σ3[n1]? = some (some (.str nm)) := by
      have hlen : n1 < σ2.length := by rw [← F.R.len, elen, ← he4]; simpa using hl1
      rw [← hσ3, List.getElem?_set_ne (Ne.symm h13), List.getElem?_set_ne (Ne.symm h12), List.getElem?_set_self hlen]
    obtain ⟨u1, hu1, ru1⟩ := rf3.lookup.2 _ hlk1
    obtain rfl : u1 = .ref d1 := ru1
    have rv2' : Rep C.K (Md C [d2, d1] e3) H3 pl v2 := rv2.later lsame
    have rv3' : Rep C.K (Md C [d2, d1] e3) H3 es' v3 := rv3.later lsame
    obtain ⟨T1, t1, t2, t3⟩ := fill_put S3 (d := d1) (d' := d2) (k := .inr nm) (by simp) nd12.symm hw1 (rk1.later lsame) hw2 (rk2.later lsame) rv2'
    have na1 : a ≠ d1 := nd1a
    have ha4 : (upd H3 d1 (.dK (putK w1 (.inr nm) v2))) a = some (.ins Ca dx3 vs3) := by rw [upd_ne na1]; exact ha3'
    obtain ⟨u2, hu2, ru2⟩ := rf3.lookup.2 _ hlk2
    obtain rfl : u2 = .ref d2 := ru2
    have lp1 : Later [] (Md C [d2, d1] e3) H3 (Md C [d2, d1] e3) (upd H3 d1 (.dK (putK w1 (.inr nm) v2))) := later_put (.inr (.inr (by simp))) ⟨_, hw1, trivial⟩
    obtain ⟨T2, t4, t5, t6⟩ := fill_put T1 (d := d2) (d' := d1) (k := .inr nm) (by simp) nd12 t2 t3 (show upd H3 d1 (.dK (putK w1 (.inr nm) v2)) d1 = some _ from upd_same) t1 (rv3'.later lp1)
    refine ⟨v2, hn2, .ref a, es3, a, Ca, dx3, vs3, .ref d1, rfl, ha3', c, nf1, hu1, .str nm, hn1, d1, _, rfl, .inl ⟨w1, .inr nm, hw1, rfl, by rw [← rk1.length]; rw [sizeLine_eq]; omega, rfl⟩, ?_⟩
    refine ⟨v3, hn3, .ref a, es3, a, Ca, dx3, vs3, .ref d2, rfl, ha4, c, nf2, hu2, .str nm, hn1, d2, _, rfl, .inl ⟨w2, .inr nm, t2, rfl, by rw [← rk2.length]; rw [sizeLine_eq]; omega, rfl⟩, ?_⟩
    refine ⟨e3, dPut k1 (.inr nm) pl, dPut k2 (.inr nm) es', ⟨T2, ⟨_, t5, t6⟩, ⟨_, upd_same, t4⟩, hself3, by rw [gs j hj1 hj2 hj3]; exact F.ta, by rw [gx j hj1 hj2 hj3]; exact F.rows⟩, by rw [← he3, wipe3_set h12 h13 h23]; exact hw, by have := dPut_len k1 (.inr nm) pl; omega, by have := dPut_len k2 (.inr nm) es'; omega, ?_, ?_⟩
    · rw [← hP, List.drop_eq_getElem_cons hil, hrow]; rfl
    · rw [← hE, List.drop_eq_getElem_cons hil, hrow]; rfl
  · left
    have ei : i = rows.length := by omega
    subst ei
    rw [List.drop_length] at hP hE
    refine ⟨⟨tvs2, by rw [← ck]; exact hsq2, by rw [← hreps2.length]; exact Nat.le_refl _⟩, ?_⟩
    obtain ⟨w1, hw1, rk1⟩ := F.k1
    obtain ⟨w2, hw2, rk2⟩ := F.k2
    have eP : fillP rows [] = k1 := by rw [← hP]; rfl
    have eE : fillE rows [] = k2 := by rw [← hE]; rfl
    obtain ⟨A1, m1, nM1⟩ := F.R.land G.ok
    obtain ⟨A2, m2, nM2⟩ := A1.land G.ok
    have nM1' : ¬ Md C [] e2 d2 := fun z => nM1 (by
      rcases z with z | z | z
      · exact .inl z
      · exact .inr (.inl z)
      · cases z)
    obtain ⟨es5, dx5, vs5, ha5, rf5⟩ := A2.getO F.self
    have rd1 : Rep C.K (Md C [] e2) H2 (.dct k1) (.ref d1) := ⟨d1, w1, rfl, nM2, .inl hw1, (rk1.later m1.nil).later m2.nil⟩
    have rd2 : Rep C.K (Md C [] e2) H2 (.dct k2) (.ref d2) := ⟨d2, w2, rfl, nM1', .inl hw2, (rk2.later m1.nil).later m2.nil⟩
    have up : FsUp C.K (Md C [] e2) H2 fs2 (putFD f2 (.dct k2) (putFD f1 (.dct k1) fs)) := by
      rw [← hfs2]
      exact FsUp.put (.inr ⟨_, rfl, rd2⟩) (FsUp.put (.inr ⟨_, rfl, rd1⟩) FsUp.refl)
    have eHa : upd H2 a (.ins Ca dx5 vs5) = H2 := by
      funext b
      by_cases hb : b = a
      · rw [hb, upd_same, ha5]
      · rw [upd_ne hb]
    have A3 := (A2.put (o := .ins Ca dx5 vs5) (y := .obj Ca (putFD f2 (.dct k2) (putFD f1 (.dct k1) fs))) F.self trivial ⟨dx5, vs5, upd_same, by rw [eHa]; exact up.rep rf5⟩).1
    rw [eHa] at A3
    have A4 := ((A3.setU n1 (σ2[n1]?.join)).setU n2 (σ2[n2]?.join)).setU n3 (σ2[n3]?.join)
    have eσ : ∀ (l : L2.St) (i : Nat), l.set i (l[i]?.join) = l := fun l i => by
      refine List.ext_getElem? fun q => ?_
      by_cases z : q = i
      · subst z
        by_cases hl : q < l.length
        · rw [List.getElem?_set_self hl, List.getElem?_eq_getElem hl]; rfl
        · rw [List.getElem?_eq_none (by simpa using hl), List.getElem?_eq_none (by omega)]
      · rw [List.getElem?_set_ne (Ne.symm z)]
    rw [eσ, eσ, eσ] at A4
    refine nx _ σ2 H2 A4 ?_
    rw [eP, eE] at hq
    have ee : (((e2.set i0 (Slot.own a (.obj Ca (putFD f2 (.dct k2) (putFD f1 (.dct k1) fs))))).set n1 .un).set n2 .un).set n3 .un = wipe3 n1 n2 n3 (e.set i0 (.own a (.obj Ca (putFD f2 (.dct k2) (putFD f1 (.dct k1) fs))))) := by
      refine List.ext_getElem? fun q => ?_
      have hq' := congrArg (fun l : En => l[q]?) hw
      unfold wipe3 at hq' ⊢
      rw [← he4] at hq'
      simp only [List.getElem?_set, List.length_set] at hq' ⊢
      have l1 := F.R.len
      have l2' := G.st.len
      have lw : e2.length = e.length := by have := congrArg List.length hw; rw [← he4] at this; simpa [wipe3] using this
      rw [lw] at hq' ⊢
      by_cases z3 : n3 = q
      · simp [z3]
      · by_cases z2 : n2 = q
        · simp [z2, z3]
        · by_cases z1 : n1 = q
          · simp [z1, z2, z3]
          · simp only [z1, z2, z3, if_false] at hq' ⊢
            by_cases z0 : i0 = q
            · simp [z0]
            · simp only [z0, if_false] at hq' ⊢
              exact hq'
    rw [ee]
    exact hq⟩
end
end DL
set_option maxHeartbeats 4000000
namespace DL
open PySem PySem.Spec PyProof.Rows L2
theorem RS.imp' {X : Cx} {st : Stmt} {t u : MS} (h : RS X st t) (i : ∀ M e W, u M e W → t M e W) : RS X st u := ⟨fun W tk => (h.run W tk).of fun D σ H ⟨C, e, MD, WD, G, ht, k⟩ => ⟨C, e, MD, WD, G, i _ _ _ ht, k⟩⟩
theorem RE.imp' {X : Cx} {st : Expr} {t u : ME} (h : RE X st t) (i : ∀ e Q W, u e Q W → t e Q W) : RE X st u := ⟨fun W tk => (h.run W tk).of fun σ H R ⟨C, fl, e, Q, WD, G, ht, k⟩ => ⟨C, fl, e, Q, WD, G, i _ _ _ ht, k⟩⟩
/-! ### C(..) by its facts -/
structure KDef (P : Program) (w : World) (K : PySem.W.Frag) (mg : Str → Option Value) (base : Heap) (x : Str) (Ca : Addr) (a : Addr) (ps : List Str) (k : Nat) (sp : SpD) : Prop where
  ex : ∃ fd, FnD P w K mg base k a fd ps sp ∧ Binds K fd ps []
  at_ : mg x = some (.ref Ca)
  mks : Mk K Ca a
section
variable {X : Cx} {pos p apos : Pos} {x m : Str} {a Ca : Addr} {ps : List Str} {j k n : Nat} {sp : SpD} {e o : Expr} {es : List Expr} {ua : MA} {t : ME} {g : MG}
theorem rf_makeD (D : KDef X.prog X.w X.K X.mg X.base x Ca a ps j sp) (hr : Room k X.A) (ha : RA X (e :: es) n ua) (hg : Gl X x := by rfl) (hle : j + 1 ≤ k := by decide) (hlen : n + 0 + 1 = ps.length := by rfl)
    (hdb : (x == ("__debug__" : Str)) = false := by decide) (he : starEach (e :: es) X.env = (false, eval e X.env) :: starEach es X.env := by rfl) (hpl : (backTo pos (starEach es X.env)).any (·.1) = false := by rfl) :
    RF X (.Call (.Name x p) (e :: es) [] pos) (mMake Ca sp [] ua) := by
  obtain ⟨⟨fd, F, hb⟩, hm, mk⟩ := D
  exact rf_make mk F (hr.mono hle) hg hm hb .nil .nil ha hlen hdb he hpl
end
/-! ### for c in text -/
def chrs (x : Str) : List D := x.cps.toList.map fun c => .str ⟨#[c]⟩
def mStrI (t : ME) : MI := fun e Q W => t e (fun x e1 => match x with | .str s => Q (chrs s) e1 | _ => False) W
theorem itOk_str {K : PySem.W.Frag} {M : Addr → Prop} {H : Hp} (x : Str) : ItOk K (Its x) (chrs x) M H where
  go := fun M2 H2 l i d hd => by
    unfold chrs at hd
    rw [List.getElem?_map] at hd
    obtain ⟨c, hc, rfl⟩ := Option.map_eq_some_iff.mp hd
    have hc' : x.cps[i]? = some c := by rw [← hc, Array.getElem?_toList]
    refine ⟨?_, fun y H3 q => ?_⟩
    · have := (List.getElem?_eq_some_iff.mp hc).1
      rw [Array.length_toList] at this
      exact this
    · obtain ⟨e, c', h1, h2⟩ := q
      subst e
      rw [hc'] at h1
      cases h1
      exact ⟨fun _ _ z => z, h2⟩
  stop := fun M2 H2 l => by show x.cps.size ≤ (chrs x).length; unfold chrs; rw [List.length_map, Array.length_toList]; exact Nat.le_refl _
theorem ri_str {X : Cx} {tg l : Expr} {t : ME} (h : RE X l t) : RI X tg l (mStrI t) := ⟨fun W tk => (pi_str (h.run W tk)).of fun σ H R ⟨C, fl, e, Q, WD, G, ht, k⟩ => ⟨C, fl, e, _, WD, G, ht, fun d e1 v H1 R1 l1 r q => by
  cases d with
  | str s => exact ⟨s, r, k (chrs s) e1 H1 _ R1 l1 (itOk_str s) q⟩
  | _ => exact q.elim⟩⟩
/-! ### try .. except C as e, by its facts -/
structure XC (K : PySem.W.Frag) (mg : Str → Option Value) (x : Str) (C : Addr) (fld : Str) : Prop where
  at_ : mg x = some (.ref C)
  ecl : ECls K C
  self : PySem.W.subIn K (.ref C) (.ref C) = some true
  xf : XfC K C
  no : PySem.W.findIn K (.ref C) fld = some none
  xi : XIs K C
def mTryX (i : Nat) (Cx : Addr) (tb : MS) (ts : Addr → Addr → Addr → MS) : MS := fun M e W => tb M e (fun Ca fs en => Ca = Cx ∧
  ∀ a dd, ts a dd Ca { nx := fun e' => M.nx (e'.set i .un), rt := M.rt, bk := fun e' => M.bk (e'.set i .un), ct := fun e' => M.ct (e'.set i .un) } (en.set i (.d (.exc a dd Ca fs))) W0')
section
variable {X : Cx} {x n fld : Str} {Cx : Addr} {i : Nat} {body suite : List Stmt} {b₀ : Stmt} {np pos pos' : Pos} {tb : MS} {ts : Addr → Addr → Addr → MS}
theorem rs_tryX (F : XC X.K X.mg x Cx fld) (hs : X.stack = X.env :: X.outer) (hf : X.env.frame = some X.env.locals) (hN : X.N.Nodup) (hi : X.N[i]? = some n) (hln : X.env.kindOf n = some .local) (hg : Gl X x) (hdb : (x == ("__debug__" : Str)) = false)
    (hb : ∀ (pn : List (Addr × Obj)) (xe : Value → Shared → Prop), PassesOwn (model X.prog X.w) X.A X.env xe → RSs (X.tr pn xe) body tb)
    (hsu : ∀ (a : Addr) (oe : Obj) (Ca dd : Addr) (pn : List (Addr × Obj)), Zc (.ref Ca) (some dd) oe → (∃ vs, oe.data = .fields vs) → RSs (X.suite a ((a, oe) :: pn)) (b₀ :: suite) (ts a dd Ca)) :
    RS X (.Try body [.ExceptHandler (some (.Name x np)) (some n) (b₀ :: suite) pos'] [] [] pos) (mTryX i Cx tb ts) := ⟨fun W tk => by
  let tsV : Addr → Value → Option Addr → TS := fun a cls d D σ H => ∃ Ca dd, cls = .ref Ca ∧ d = some dd ∧ cS X.K (fun _ _ _ _ => False) (ts a dd Ca) D σ H
  refine (ps_try_as (c := .ref Cx) (tb := fun W => cS X.K W tb) (ts := tsV) hs hf hN hi hln ⟨hg, hdb, .inl F.at_⟩ tk (fun W' pn xe tk' po => (hb pn xe po).run W' tk') (fun a oe cls d pn hz hfd => ?_)).of fun D σ H ⟨C, e, MD, WD, G, ht, k1, k2, k3, k4⟩ => ?_
  · refine ⟨fun pins s σ H D I h => ?_⟩
    obtain ⟨Ca, dd, rfl, rfl, h⟩ := h
    exact ((hsu a oe Ca dd pn hz hfd).run (fun _ _ _ _ => False) (fun u s xx => by
      obtain ⟨_, _, _, _, _, _, _, _, _, _, _, _, _, _, _, _, w⟩ := xx
      exact w.elim)).run pins s σ H D I h
  · refine ⟨C, e, MD, _, ⟨G.k, G.ok, G.st, fun Ca dd fs vs σ' H' en R hdd rf ⟨hCa, hy⟩ => ⟨true, PySem.W.exm_ref F.ecl.h1 F.ecl.h2 F.ecl.h3 (by rw [hCa]; exact F.self), fun _ a ha => ⟨Ca, dd, rfl, rfl, C, _, _, _, ⟨G.k, G.ok, R.setD (x := .exc a dd Ca fs) (v := .ref a) ⟨rfl, vs, hdd, rf⟩, fun _ _ _ _ _ _ _ _ _ _ z => z.elim⟩, hy a dd, ?_, ?_, ?_, ?_⟩, (fun z => by cases z)⟩⟩, ht, k1, k2, k3, k4⟩
    · exact fun e' σ2 H2 R2 q => k1 _ _ _ (R2.setU i none) q
    · exact fun s e' v σ2 H2 ro q => k2 _ _ _ _ _ ro q
    · exact fun e' σ2 H2 R2 q => k3 _ _ _ (R2.setU i none) q
    · exact fun e' σ2 H2 R2 q => k4 _ _ _ (R2.setU i none) q⟩
end
/-- e.field, isinstance(e, class), in the suite -/
def mXisB (a dd Ca Cx : Addr) (b : Bool) (t : ME) : ME := fun e Q W => Ca = Cx ∧ t e (fun x e1 => kX a dd (fun _ _ => Q (.bl b) e1) x) W
section
variable {X : Cx} {a dd Ca Cx : Addr} {oe : Obj} {pn : List (Addr × Obj)} {e : Expr} {pos p p2 : Pos} {t : ME} {f x y : Str}
theorem re_xfldX (F : XC X.K X.mg x Cx f) (hz : Zc (.ref Ca) (some dd) oe) (hf : ∃ vs, oe.data = .fields vs) (he : RE (X.suite a ((a, oe) :: pn)) e t) (hb : attributeBase e f X.env (eval e X.env) = eval e X.env := by rfl) :
    RE (X.suite a ((a, oe) :: pn)) (.Attribute e f pos) (mXfld a dd Ca Cx f t) := re_xfld F.xf F.no hz hf he hb
theorem re_xisX {cv : Value} {w : V} {b : Bool} (F : XC X.K X.mg x Cx f) (hz : Zc (.ref Ca) (some dd) oe) (hf : ∃ vs, oe.data = .fields vs) (hm : X.mg "isinstance" = none) (he : RE (X.suite a ((a, oe) :: pn)) e t) (hc : PE (X.suite a ((a, oe) :: pn)) (.Name y p2) (tC w)) (hw : ∀ u, RelV w u → u = cv) (hk : PySem.W.kitOne X.K (.ref Cx) cv = some b) (hg : Gl X "isinstance" := by rfl)
    (hs : starEach [e, .Name y p2] X.env = (false, eval e X.env) :: starEach [.Name y p2] X.env := by rfl) (hs2 : starEach [.Name y p2] X.env = (false, eval (.Name y p2) X.env) :: starEach [] X.env := by rfl) (hpl : (backTo pos (starEach [.Name y p2] X.env)).any (·.1) = false := by rfl) :
    RE (X.suite a ((a, oe) :: pn)) (.Call (.Name "isinstance" p) [e, .Name y p2] [] pos) (mXisB a dd Ca Cx b t) :=
  ⟨fun W tk => ⟨fun pins s σ H R I ⟨C, fl, en, Q, WD, G, ⟨hC, ht⟩, k⟩ => by
    subst hC
    exact (pe_callB (X := X.suite a ((a, oe) :: pn)) (call_isX F.xi hz hf) hg hm (by decide +kernel) (pa_cons (X := X.suite a ((a, oe) :: pn)) (he.run W tk) (pa_cons (X := X.suite a ((a, oe) :: pn)) hc pa_nil hs2) hs) (by decide) (by decide) hs hpl).run pins s σ H R I ⟨C, fl, en, _, WD, G, ht, fun x e1 v H1 R1 l1 rx q => by
      obtain ⟨C', fs, rfl, hq⟩ := kX_of q
      obtain ⟨rfl, vs, hdd, rf⟩ := rx
      exact ⟨w, cv, b, vs, rfl, hdd, hw, hk, k (.bl b) e1 _ H1 R1 l1 rfl hq⟩⟩⟩⟩
end
end DL
set_option maxHeartbeats 4000000
namespace DL
open PySem PySem.Spec PyProof.Rows L2
/-! ### f(new object), f changes it and gives data -/
def mCallN (sp : SpD) (t : ME) : ME := fun e Q W => t e (fun x e1 => ∀ a, a ∉ owns e1 → sp [.own a x] (fun r xs => match r with | .d y => xs.length = 1 ∧ Q y e1 | _ => False) (fun _ _ _ => False)) W
theorem passF {X : Cx} {σ : L2.St} : PassesAt (L2.CX X.prog X.w) X σ (fun _ _ _ => False) := fun pins H s e s' I c => by
  obtain ⟨_, _, _, _, _, _, _, _, _, _, _, _, z⟩ := c
  exact z.elim
section
variable {X : Cx} {pos p : Pos} {x : Str} {a : Addr} {ps : List Str} {j k : Nat} {sp : SpD} {e : Expr} {t : ME}
theorem pa_one {te : TE} (he : PE X e te) (hs : starEach [e] X.env = (false, eval e X.env) :: starEach [] X.env) : PA X [e] (tCons te tNil) := pa_cons he pa_nil hs
theorem re_callN (D : Def X.prog X.w X.K X.mg X.base x a ps j sp) (hr : Room k X.A) (ha : RF X e t) (hg : Gl X x := by rfl) (hle : j ≤ k := by decide) (hlen : ps.length = 1 := by rfl)
    (hdb : (x == ("__debug__" : Str)) = false := by decide) (he : starEach [e] X.env = (false, eval e X.env) :: starEach [] X.env := by rfl) (hpl : (backTo pos (starEach [] X.env)).any (·.1) = false := by rfl) :
    RE X (.Call (.Name x p) [e] [] pos) (mCallN sp t) := by
  obtain ⟨⟨fd, F, hb⟩, hm, hk⟩ := D
  refine ⟨fun W tk => (pe_callSD (E := fun _ _ _ _ => False) F.ok (hr.mono hle) hg hm hk hb .nil (fun σ => passF) (pa_one (ha.run W tk) he) hdb he hpl).of fun σ H R ⟨C, fl, en, Q, WD, G, ht, kk⟩ => ⟨C, fl, en, _, WD, G, ht, fun d e1 ad H1 R1 l1 o1 q => ?_⟩⟩
  have nx : ad ∉ owns e1 := fun z => (List.nodup_append.mp R1.nd).2.2 ad z ad List.mem_cons_self rfl
  have o1' : Own C.K (Md C (ad :: fl) e1) H1 d ad := by rw [G.k]; exact o1
  have R4 := R1.push o1'
  have same : ∀ b, Md C (ad :: fl) e1 b ↔ Md C fl (e1 ++ [.own ad d]) b := (R4.pop).2.2
  have G4 : Gd X.K (fun _ _ _ _ => False) C fl (σ ++ [some (.ref ad)]) H1 (e1 ++ [.own ad d]) (fun _ _ _ => False) := ⟨G.k, G.ok, R4, fun _ _ _ _ _ _ _ _ _ _ z => z⟩
  have hxi : (e1 ++ [Slot.own ad d])[e1.length]? = some (.own ad d) := by rw [List.getElem?_append_right (Nat.le_refl _), Nat.sub_self]; rfl
  have rs' : ArgsR X.K (Md C fl (e1 ++ [.own ad d])) H1 (e1 ++ [.own ad d]) [.io e1.length] [.ref ad] := .cons ⟨ad, d, hxi, rfl⟩ .nil
  refine ask (as := [.io e1.length]) (vs := [.ref ad]) (dds := []) (dvs := []) (n := ps.length) (W := fun _ _ _ _ => False) (WD := fun _ _ _ => False) G4 rfl rs' (by rw [hlen]; rfl) rfl (Q := fun r xs => match r with | .d y => xs.length = 1 ∧ Q y e1 | _ => False) ?_ fun r xs hq => ?_
  · have e5 : rsS (e1 ++ [.own ad d]) (.io e1.length) = .own ad d := by
      show ((e1 ++ [Slot.own ad d])[e1.length]?).getD .un = _
      rw [hxi]; rfl
    show sp ([rsS (e1 ++ [.own ad d]) (.io e1.length)] ++ []) _ _
    rw [e5]
    exact q ad nx
  · cases r with
    | un => exact hq.elim
    | own _ _ => exact hq.elim
    | d z =>
      obtain ⟨hl, hq⟩ := hq
      obtain ⟨y, rfl⟩ : ∃ y, xs = [y] := by
        cases xs with
        | nil => simp at hl
        | cons y ys => cases ys with
          | nil => exact ⟨y, rfl⟩
          | cons _ _ => simp at hl
      intro v H' R5 l5 rp
      have eB : putB (e1 ++ [.own ad d]) [.io e1.length] [y] = e1 ++ [.own ad y] := by
        unfold putB
        rw [hxi]
        simp only
        unfold putB
        rw [List.set_append_right _ _ (Nat.le_refl _), Nat.sub_self]
        rfl
      rw [eB] at R5 l5 rp
      obtain ⟨R6, o6, sm⟩ := R5.pop
      obtain ⟨R7, l7, _⟩ := R6.land G.ok
      have l56 : Later fl (Md C (ad :: fl) e1) H1 (Md C (ad :: fl) e1) H' := ⟨fun b hb => by
        rcases l5.own b ((sm b).mp hb) with q | q
        · exact .inl ((same b).mpr q)
        · exact .inr q, fun b o hb q => l5.keep b o hb (q.imp (fun z y => z ((same b).mpr y)) id), l5.fix⟩
      have l6 : Later fl (Md C (ad :: fl) e1) H' (Md C fl e1) H' := l7
      refine kk z e1 v H' R7 ((l1.trans l56).trans l6) ?_ hq
      have rp' : Rep X.K (Md C (ad :: fl) e1) H' z v := rp.later (.same fun b hb => (sm b).mp hb)
      exact rp'.later l7
end
end DL
set_option maxHeartbeats 4000000
namespace DL
open PySem L2
-- GEN
@[simp] theorem mC_c (d : D) (s : Slot) (e : En) (Q : KE) (u2 : WE) : mC d (s :: e) Q u2 = (Q d (s :: e)) := id rfl
@[simp] theorem mOp_c (r : DR2) (ta tb : ME) (s : Slot) (e : En) (Q : KE) (W : WE) : mOp r ta tb (s :: e) Q W = (ta (s :: e) (fun x e1 => tb e1 (fun y e2 => r x y fun z => Q z e2) W) W) := id rfl
@[simp] theorem mTest_c (t : ME) (s : Slot) (e : En) (Q : Bool → En → Prop) (W : WE) : mTest t (s :: e) Q W = (t (s :: e) (fun x e1 => kB (fun b => Q b e1) x) W) := id rfl
@[simp] theorem mChain_c (r r' : DR2) (ta tb tc : ME) (s : Slot) (e : En) (Q : KE) (W : WE) : mChain r r' ta tb tc (s :: e) Q W = (ta (s :: e) (fun x e1 => tb e1 (fun y e2 => r x y (kB fun k => if k = true then tc e2 (fun z e3 => r' y z fun w => Q w e3) W else Q (.bl false) e2)) W) W) := id rfl
@[simp] theorem mAnd_c (t u : MT) (s : Slot) (e : En) (Q : Bool → En → Prop) (W : WE) : mAnd t u (s :: e) Q W = (t (s :: e) (fun k e1 => if k = true then u e1 Q W else Q false e1) W) := id rfl
@[simp] theorem mOr_c (t u : MT) (s : Slot) (e : En) (Q : Bool → En → Prop) (W : WE) : mOr t u (s :: e) Q W = (t (s :: e) (fun k e1 => if k = true then Q true e1 else u e1 Q W) W) := id rfl
@[simp] theorem mNot_c (t : MT) (s : Slot) (e : En) (Q : Bool → En → Prop) (W : WE) : mNot t (s :: e) Q W = (t (s :: e) (fun k e1 => Q (!k) e1) W) := id rfl
@[simp] theorem mAndV_c (ta tb : ME) (s : Slot) (e : En) (Q : KE) (W : WE) : mAndV ta tb (s :: e) Q W = (ta (s :: e) (fun x e1 => kB (fun k => if k = true then tb e1 Q W else Q (.bl false) e1) x) W) := id rfl
@[simp] theorem mOrV_c (ta tb : ME) (s : Slot) (e : En) (Q : KE) (W : WE) : mOrV ta tb (s :: e) Q W = (ta (s :: e) (fun x e1 => kB (fun k => if k = true then Q (.bl true) e1 else tb e1 Q W) x) W) := id rfl
@[simp] theorem mNotV_c (ta : ME) (s : Slot) (e : En) (Q : KE) (W : WE) : mNotV ta (s :: e) Q W = (ta (s :: e) (fun x e1 => kB (fun k => Q (.bl (!k)) e1) x) W) := id rfl
@[simp] theorem mIf_c (t : MT) (ta tb : ME) (s : Slot) (e : En) (Q : KE) (W : WE) : mIf t ta tb (s :: e) Q W = (t (s :: e) (fun k e1 => if k = true then ta e1 Q W else tb e1 Q W) W) := id rfl
@[simp] theorem mNil_c (s : Slot) (e : En) (Q : List Arg → En → Prop) (u2 : WE) : mNil  (s :: e) Q u2 = (Q [] (s :: e)) := id rfl
@[simp] theorem mCons_c (t : ME) (u : MA) (s : Slot) (e : En) (Q : List Arg → En → Prop) (W : WE) : mCons t u (s :: e) Q W = (t (s :: e) (fun x e1 => u e1 (fun xs e2 => Q (.d x :: xs) e2) W) W) := id rfl
@[simp] theorem mConsIO_c (i : Nat) (u : MA) (s : Slot) (e : En) (Q : List Arg → En → Prop) (W : WE) : mConsIO i u (s :: e) Q W = (isOwn (s :: e)[i]? (u (s :: e) (fun xs e2 => isOwn e2[i]? (Q (.io i :: xs) e2)) W)) := id rfl
@[simp] theorem mSkip_c (MD : MEnds) (s : Slot) (e : En) (u2 : WE) : mSkip  MD (s :: e) u2 = (MD.nx (s :: e)) := id rfl
@[simp] theorem mSeq_c (t u : MS) (MD : MEnds) (s : Slot) (e : En) (W : WE) : mSeq t u MD (s :: e) W = (t { MD with nx := fun e1 => u MD e1 W } (s :: e) W) := id rfl
@[simp] theorem mBreak_c (MD : MEnds) (s : Slot) (e : En) (u2 : WE) : mBreak  MD (s :: e) u2 = (MD.bk (s :: e)) := id rfl
@[simp] theorem mCont_c (MD : MEnds) (s : Slot) (e : En) (u2 : WE) : mCont  MD (s :: e) u2 = (MD.ct (s :: e)) := id rfl
@[simp] theorem mIfS_c (c : MT) (t u : MS) (MD : MEnds) (s : Slot) (e : En) (W : WE) : mIfS c t u MD (s :: e) W = (c (s :: e) (fun k e1 => if k = true then t MD e1 W else u MD e1 W) W) := id rfl
@[simp] theorem mSet_c (i : Nat) (t : ME) (MD : MEnds) (s : Slot) (e : En) (W : WE) : mSet i t MD (s :: e) W = (t (s :: e) (fun x e1 => MD.nx (e1.set i (.d x))) W) := id rfl
@[simp] theorem mSetF_c (i : Nat) (t : ME) (MD : MEnds) (s : Slot) (e : En) (W : WE) : mSetF i t MD (s :: e) W = (t (s :: e) (fun x e1 => ∀ a, a ∉ owns e1 → MD.nx (e1.set i (.own a x))) W) := id rfl
@[simp] theorem mRet_c (t : ME) (MD : MEnds) (s : Slot) (e : En) (W : WE) : mRet t MD (s :: e) W = (t (s :: e) (fun x e1 => MD.rt (.d x) e1) W) := id rfl
@[simp] theorem mRetF_c (t : ME) (MD : MEnds) (s : Slot) (e : En) (W : WE) : mRetF t MD (s :: e) W = (t (s :: e) (fun x e1 => ∀ a, a ∉ owns e1 → MD.rt (.own a x) e1) W) := id rfl
@[simp] theorem mRetN_c (MD : MEnds) (s : Slot) (e : En) (u2 : WE) : mRetN  MD (s :: e) u2 = (MD.rt (.d .non) (s :: e)) := id rfl
@[simp] theorem mDrop_c (t : ME) (MD : MEnds) (s : Slot) (e : En) (W : WE) : mDrop t MD (s :: e) W = (t (s :: e) (fun _ e1 => MD.nx e1) W) := id rfl
@[simp] theorem mApp_c (i : Nat) (t : ME) (MD : MEnds) (s : Slot) (e : En) (W : WE) : mApp i t MD (s :: e) W = (lstO (s :: e)[i]? fun _ _ => t (s :: e) (fun y e1 => lstO e1[i]? fun a ds => ds.length < sizeLine ∧ MD.nx (e1.set i (.own a (.lst (ds ++ [y]))))) W) := id rfl
@[simp] theorem mSeqI_c (t : ME) (s : Slot) (e : En) (Q : List D → En → Prop) (W : WE) : mSeqI t (s :: e) Q W = (t (s :: e) (fun x e1 => sqD x fun ds => Q ds e1) W) := id rfl
@[simp] theorem mRng1_c (t : ME) (s : Slot) (e : En) (Q : List D → En → Prop) (W : WE) : mRng1 t (s :: e) Q W = (t (s :: e) (fun x e1 => kI (fun n => n < 2 ^ 62 ∧ -(2 ^ 62) ≤ n ∧ Q (rngD 0 n.toNat) e1) x) W) := id rfl
@[simp] theorem mRng2_c (ta tb : ME) (s : Slot) (e : En) (Q : List D → En → Prop) (W : WE) : mRng2 ta tb (s :: e) Q W = (ta (s :: e) (fun x e1 => tb e1 (fun y e2 => kI (fun i => kI (fun j => (-(2 ^ 62) ≤ i ∧ i < 2 ^ 62 ∧ -(2 ^ 62) ≤ j ∧ j < 2 ^ 62) ∧ Q (rngD i (j - i).toNat) e2) y) x) W) W) := id rfl
@[simp] theorem mgN_c (i : Nat) (d : D) (s : Slot) (e : En) (k : En → Prop) : mgN i d (s :: e) k = (k ((s :: e).set i (.d d))) := id rfl
@[simp] theorem mgTup_c (gs : MGs) (d : D) (s : Slot) (e : En) (k : En → Prop) : mgTup gs d (s :: e) k = (match d with | .tup ds => gs ds (s :: e) k | _ => False) := id rfl
@[simp] theorem mFor_c (ti : MI) (g : MG) (tb : MS) (MD : MEnds) (s : Slot) (e : En) (W : WE) : mFor ti g tb MD (s :: e) W = (ti (s :: e) (fun ds e1 => forD g tb MD W ds e1) W) := id rfl
@[simp] theorem mL0_c (s : Slot) (e : En) (Q : List D → En → Prop) (u2 : WE) : mL0  (s :: e) Q u2 = (Q [] (s :: e)) := id rfl
@[simp] theorem mL1_c (t : ME) (u : ML) (s : Slot) (e : En) (Q : List D → En → Prop) (W : WE) : mL1 t u (s :: e) Q W = (t (s :: e) (fun x e1 => u e1 (fun xs e2 => Q (x :: xs) e2) W) W) := id rfl
@[simp] theorem mTup_c (t : ML) (s : Slot) (e : En) (Q : KE) (W : WE) : mTup t (s :: e) Q W = (t (s :: e) (fun ds e1 => Q (.tup ds) e1) W) := id rfl
@[simp] theorem mLst_c (t : ML) (s : Slot) (e : En) (Q : KE) (W : WE) : mLst t (s :: e) Q W = (t (s :: e) (fun ds e1 => Q (.lst ds) e1) W) := id rfl
@[simp] theorem mB1_c (r : DR1) (t : ME) (s : Slot) (e : En) (Q : KE) (W : WE) : mB1 r t (s :: e) Q W = (t (s :: e) (fun x e1 => r x fun z => Q z e1) W) := id rfl
@[simp] theorem mQE_c (t : ME) (s : Slot) (e : En) (Q : Arg → En → Prop) (W : WE) : mQE t (s :: e) Q W = (t (s :: e) (fun x e1 => Q (.d x) e1) W) := id rfl
@[simp] theorem mQN_c (i : Nat) (s : Slot) (e : En) (Q : Arg → En → Prop) (u2 : WE) : mQN i (s :: e) Q u2 = (pkD (s :: e)[i]? fun _ => Q (.io i) (s :: e)) := id rfl
@[simp] theorem mOpQ_c (r : DR2) (qa : MQ) (tb : ME) (s : Slot) (e : En) (Q : KE) (W : WE) : mOpQ r qa tb (s :: e) Q W = (qa (s :: e) (fun p e1 => tb e1 (fun y e2 => rsD e2 p fun x => r x y fun z => Q z e2) W) W) := id rfl
@[simp] theorem mO0_c (s : Slot) (e : En) (Q : Option Int → En → Prop) (u2 : WE) : mO0  (s :: e) Q u2 = (Q none (s :: e)) := id rfl
@[simp] theorem mO1_c (t : ME) (s : Slot) (e : En) (Q : Option Int → En → Prop) (W : WE) : mO1 t (s :: e) Q W = (t (s :: e) (fun x e1 => kI (fun i => Q (some i) e1) x) W) := id rfl
@[simp] theorem mSlL_c (qa : MQ) (ol oh : MO) (s : Slot) (e : En) (Q : KE) (W : WE) : mSlL qa ol oh (s :: e) Q W = (qa (s :: e) (fun p e1 => ol e1 (fun l e2 => oh e2 (fun h e3 => rsD e3 p fun x => match x with | .lst ds => Q (.lst (cutD ds l h)) e3 | .scr ds => Q (.lst (cutD ds l h)) e3 | _ => False) W) W) W) := id rfl
@[simp] theorem mSlS_c (qa : MQ) (ol oh : MO) (s : Slot) (e : En) (Q : KE) (W : WE) : mSlS qa ol oh (s :: e) Q W = (qa (s :: e) (fun p e1 => ol e1 (fun l e2 => oh e2 (fun h e3 => rsD e3 p (kS fun z => z.length ≤ sizeLine ∧ Q (.str (cutS z l h)) e3)) W) W) W) := id rfl
@[simp] theorem mSplit_c (ta tb : ME) (s : Slot) (e : En) (Q : KE) (W : WE) : mSplit ta tb (s :: e) Q W = (ta (s :: e) (fun x e1 => kS (fun i => tb e1 (fun y e2 => kS (fun j => (j.length == 0) = false ∧ i.length + 2 ≤ sizeLine ∧ Q (.lst ((Txt.split i j).map D.str)) e2) y) W) x) W) := id rfl
@[simp] theorem mJoin_c (ta tb : ME) (s : Slot) (e : En) (Q : KE) (W : WE) : mJoin ta tb (s :: e) Q W = (ta (s :: e) (fun x e1 => kS (fun i => tb e1 (fun y e2 => sqD y fun ds => ∃ ys, unS ds = some ys ∧ (ys.map (·.length)).sum + ys.length * i.length ≤ 16777216 ∧ Q (.str (Txt.join i ys)) e2) W) x) W) := id rfl
@[simp] theorem mCall_c (sp : SpD) (dds : List D) (ta : MA) (s : Slot) (e : En) (Q : KE) (W : WE) : mCall sp dds ta (s :: e) Q W = (ta (s :: e) (fun as e1 => nodupN (ioIx as) = true ∧ sp (as.map (rsS e1) ++ dds.map .d) (rtD Q e1 as) (fun Ca fs xs => W Ca fs (putB e1 as xs))) W) := id rfl
@[simp] theorem mCallF_c (sp : SpD) (dds : List D) (ta : MA) (s : Slot) (e : En) (Q : KE) (W : WE) : mCallF sp dds ta (s :: e) Q W = (ta (s :: e) (fun as e1 => nodupN (ioIx as) = true ∧ sp (as.map (rsS e1) ++ dds.map .d) (rtF Q e1 as) (fun Ca fs xs => W Ca fs (putB e1 as xs))) W) := id rfl
@[simp] theorem mFld_c (Ca : Addr) (f : Str) (t : ME) (s : Slot) (e : En) (Q : KE) (W : WE) : mFld Ca f t (s :: e) Q W = (t (s :: e) (fun x e1 => kO Ca (fun fs => ∃ d, fs.lookup f = some d ∧ Q d e1) x) W) := id rfl
@[simp] theorem mPutF_c (Ca : Addr) (f : Str) (i : Nat) (t : ME) (MD : MEnds) (s : Slot) (e : En) (W : WE) : mPutF Ca f i t MD (s :: e) W = (t (s :: e) (fun x e1 => objO Ca e1[i]? fun fs a => fs.length < 1000 ∧ MD.nx (e1.set i (.own a (.obj Ca (putFD f x fs))))) W) := id rfl
@[simp] theorem mMeth_c (Ca : Addr) (m : Str) (sp : SpD) (dds : List D) (t : ME) (ua : MA) (s : Slot) (e : En) (Q : KE) (W : WE) : mMeth Ca m sp dds t ua (s :: e) Q W = (t (s :: e) (fun x e1 => kO Ca (fun fs => fs.lookup m = none ∧ ua e1 (fun as e2 => nodupN (ioIx as) = true ∧ sp (.d x :: (as.map (rsS e2) ++ dds.map .d)) (rtD Q e2 as) (fun Ce fs xs => W Ce fs (putB e2 as xs))) W) x) W) := id rfl
@[simp] theorem mMake_c (Ca : Addr) (sp : SpD) (dds : List D) (ua : MA) (s : Slot) (e : En) (Q : KE) (W : WE) : mMake Ca sp dds ua (s :: e) Q W = (ua (s :: e) (fun as e1 => ioIx as = [] ∧ ∀ a, a ∉ owns e1 → sp (.own a (.obj Ca []) :: (as.map (rsS e1) ++ dds.map .d)) (fun r xs => match r, xs with
  | .d .non, [y] => Q y e1
  | _, _ => False) (fun _ _ _ => False)) W) := rfl
@[simp] theorem mLc_c (ti : MI) (g : MG) (tt : MT) (te : ME) (vs : List Nat) (s : Slot) (e : En) (Q : KE) (W : WE) : mLc ti g tt te vs (s :: e) Q W = (ti (s :: e) (fun ds e1 => lcD g tt te vs Q ds [] e1) W) := id rfl
@[simp] theorem mYes_c (s : Slot) (e : En) (Q : Bool → En → Prop) (u2 : WE) : mYes  (s :: e) Q u2 = (Q true (s :: e)) := id rfl
@[simp] theorem mIsi_c (T : String) (t : ME) (s : Slot) (e : En) (Q : KE) (W : WE) : mIsi T t (s :: e) Q W = (t (s :: e) (fun x e1 => ∃ n b, tyD x = some n ∧ isiB n T = some b ∧ Q (.bl b) e1) W) := id rfl
@[simp] theorem mDGet2_c (ta tb tc : ME) (s : Slot) (e : En) (Q : KE) (W : WE) : mDGet2 ta tb tc (s :: e) Q W = (ta (s :: e) (fun x e1 => kD (fun kvs => tb e1 (fun y e2 => tc e2 (fun z e3 => ∃ key, keyD y = some key ∧ Q ((dGet kvs key).getD z) e3) W) W) x) W) := id rfl
@[simp] theorem mDPut_c (j : Nat) (tv ti : ME) (MD : MEnds) (s : Slot) (e : En) (W : WE) : mDPut j tv ti MD (s :: e) W = (tv (s :: e) (fun x e1 => dctO e1[j]? fun _ _ => ti e1 (fun y e2 => dctO e2[j]? fun a kvs => ∃ key, keyD y = some key ∧ kvs.length < sizeLine ∧ MD.nx (e2.set j (.own a (.dct (dPut kvs key x))))) W) W) := id rfl
@[simp] theorem mPutL_c (j : Nat) (tv ti : ME) (MD : MEnds) (s : Slot) (e : En) (W : WE) : mPutL j tv ti MD (s :: e) W = (tv (s :: e) (fun x e1 => lstO e1[j]? fun _ _ => ti e1 (fun y e2 => lstO e2[j]? fun a ds => kI (fun i => ∃ n, ixN ds.length i = some n ∧ MD.nx (e2.set j (.own a (.lst (ds.set n x))))) y) W) W) := id rfl
@[simp] theorem mRevI_c (t : ME) (s : Slot) (e : En) (Q : List D → En → Prop) (W : WE) : mRevI t (s :: e) Q W = (t (s :: e) (fun x e1 => match x with | .lst ds => Q ds.reverse e1 | _ => False) W) := id rfl
@[simp] theorem mCount_c (ta tb : ME) (s : Slot) (e : En) (Q : KE) (W : WE) : mCount ta tb (s :: e) Q W = (ta (s :: e) (fun x e1 => kS (fun i => tb e1 (fun y e2 => kS (fun j => Q (.int (Txt.count i j)) e2) y) W) x) W) := id rfl
@[simp] theorem mUn_c (r : DR1) (t : ME) (s : Slot) (e : En) (Q : KE) (W : WE) : mUn r t (s :: e) Q W = (t (s :: e) (fun x e1 => r x fun z => Q z e1) W) := id rfl
@[simp] theorem mCallN_c (sp : SpD) (t : ME) (s : Slot) (e : En) (Q : KE) (W : WE) : mCallN sp t (s :: e) Q W = (t (s :: e) (fun x e1 => ∀ a, a ∉ owns e1 → sp [.own a x] (fun r xs => match r with | .d y => xs.length = 1 ∧ Q y e1 | _ => False) (fun _ _ _ => False)) W) := id rfl
@[simp] theorem mRaise_c (C : Addr) (fld : Str) (t : ME) (u0 : MEnds) (s : Slot) (e : En) (W : WE) : mRaise C fld t u0 (s :: e) W = (t (s :: e) (fun d e1 => W C [(fld, d)] e1) W) := id rfl
@[simp] theorem mXfld_c (a dd Ca Cx : Addr) (f : Str) (t : ME) (s : Slot) (e : En) (Q : KE) (W : WE) : mXfld a dd Ca Cx f t (s :: e) Q W = (t (s :: e) (fun x e1 => kX a dd (fun _ fs => Ca = Cx ∧ ∃ d, fs.lookup f = some d ∧ Q d e1) x) W) := id rfl
@[simp] theorem mXisB_c (a dd Ca Cx : Addr) (b : Bool) (t : ME) (s : Slot) (e : En) (Q : KE) (W : WE) : mXisB a dd Ca Cx b t (s :: e) Q W = (Ca = Cx ∧ t (s :: e) (fun x e1 => kX a dd (fun _ _ => Q (.bl b) e1) x) W) := id rfl
@[simp] theorem mLcK_c (i : Nat) (g : MG) (tt : MT) (te : ME) (vs : List Nat) (s : Slot) (e : En) (Q : KE) (W : WE) : mLcK i g tt te vs (s :: e) Q W = (slotDct (s :: e) i fun kvs => mLc (mKeysV i) g tt te vs ((s :: e).set i (.d (.dct kvs))) Q W) := id rfl
@[simp] theorem mSortK_c (sp : SpD) (t : ME) (s : Slot) (e : En) (Q : KE) (W : WE) : mSortK sp t (s :: e) Q W = (t (s :: e) (fun x e1 => ∃ (ss : List Str) (key : Str → List D) (shape : Nat → Bool), strsOf x = some ss ∧
  (∀ s ∈ ss, KItD shape 0 (key s) ∧ key s ≠ [] ∧ sp [.d (.str s)] (fun r _ => r = .d (.tup (key s))) (fun _ _ _ => False)) ∧
  ∀ ss' : List Str, ss'.Perm ss → ss'.Pairwise (fun p q => klt ((key q).map keyK) ((key p).map keyK) = false) → Q (.lst (ss'.map .str)) e1) W) := rfl
@[simp] theorem mAsgG_c (t : ME) (g : MG) (MD : MEnds) (s : Slot) (e : En) (W : WE) : mAsgG t g MD (s :: e) W = (t (s :: e) (fun x e1 => g x e1 MD.nx) W) := id rfl
@[simp] theorem mStrI_c (t : ME) (s : Slot) (e : En) (Q : List D → En → Prop) (W : WE) : mStrI t (s :: e) Q W = (t (s :: e) (fun x e1 => match x with | .str s => Q (chrs s) e1 | _ => False) W) := id rfl
@[simp] theorem mTryX_c (i : Nat) (Cx : Addr) (tb : MS) (ts : Addr → Addr → Addr → MS) (M : MEnds) (s : Slot) (e : En) (W : WE) : mTryX i Cx tb ts M (s :: e) W = (tb M (s :: e) (fun Ca fs en => Ca = Cx ∧
  ∀ a dd, ts a dd Ca { nx := fun e' => M.nx (e'.set i .un), rt := M.rt, bk := fun e' => M.bk (e'.set i .un), ct := fun e' => M.ct (e'.set i .un) } (en.set i (.d (.exc a dd Ca fs))) W0')) := rfl
@[simp] theorem mMS_c (g : Str → Str → D) (ta tb : ME) (s : Slot) (e : En) (Q : KE) (W : WE) : mMS g ta tb (s :: e) Q W = (ta (s :: e) (fun x e1 => tb e1 (fun y e2 => kS (fun i => kS (fun j => Q (g i j) e2) y) x) W) W) := id rfl
def varO : Option Slot → Nat → En → KE → Prop
  | some (.d x), _, e, Q => Q x e
  | some (.own _ x), i, e, Q => Q x (e.set i (.d x))
  | _, _, _, _ => False
@[simp] theorem varO_d (x : D) (i e Q) : varO (some (.d x)) i e Q = Q x e := id rfl
@[simp] theorem varO_o (a) (x : D) (i e Q) : varO (some (.own a x)) i e Q = Q x (e.set i (.d x)) := id rfl
@[simp] theorem mVar_c (i : Nat) (s : Slot) (e : En) (Q : KE) (W : WE) : mVar i (s :: e) Q W = varO (s :: e)[i]? i (s :: e) Q := by
  unfold mVar varO
  cases (s :: e)[i]? with
  | none => rfl
  | some q => cases q <;> rfl
def pkO : Option Slot → En → KE → Prop
  | some (.d x), e, Q => Q x e
  | some (.own _ x), e, Q => Q x e
  | _, _, _ => False
@[simp] theorem pkO_d (x : D) (e Q) : pkO (some (.d x)) e Q = Q x e := id rfl
@[simp] theorem pkO_o (a) (x : D) (e Q) : pkO (some (.own a x)) e Q = Q x e := id rfl
@[simp] theorem mPk_c (i : Nat) (s : Slot) (e : En) (Q : KE) (W : WE) : mPk i (s :: e) Q W = pkO (s :: e)[i]? (s :: e) Q := by
  unfold mPk pkO
  cases (s :: e)[i]? with
  | none => rfl
  | some q => cases q <;> rfl
@[simp] theorem mPop_c (i : Nat) (s : Slot) (e : En) (Q : KE) (W : WE) : mPop i (s :: e) Q W = lstO (s :: e)[i]? (fun a ds => ∃ d, ds[ds.length - 1]? = some d ∧ Q d ((s :: e).set i (.own a (.lst ds.dropLast)))) := id rfl
@[simp] theorem eqA_int (a b : Int) (k) : oEqA (.int a) (.int b) k = k (.bl (decide (a = b))) := by
  show (if scalD (.int a) (.int b) = true then k (.bl (decide (V.int a = V.int b))) else _) = _
  rw [if_pos (show scalD (.int a) (.int b) = true from rfl)]
  simp
@[simp] theorem eqA_str (a b : Str) (k) : oEqA (.str a) (.str b) k = k (.bl (decide (a = b))) := by
  show (if scalD (.str a) (.str b) = true then k (.bl (decide (V.str a = V.str b))) else _) = _
  rw [if_pos (show scalD (.str a) (.str b) = true from rfl)]
  simp
@[simp] theorem eqA_bl (a b : Bool) (k) : oEqA (.bl a) (.bl b) k = k (.bl (decide (a = b))) := by
  show (if scalD (.bl a) (.bl b) = true then k (.bl (decide (V.bl a = V.bl b))) else _) = _
  rw [if_pos (show scalD (.bl a) (.bl b) = true from rfl)]
  simp
@[simp] theorem neA_int (a b : Int) (k) : oNeA (.int a) (.int b) k = k (.bl (!decide (a = b))) := by
  show (if scalD (.int a) (.int b) = true then k (.bl (!decide (V.int a = V.int b))) else _) = _
  rw [if_pos (show scalD (.int a) (.int b) = true from rfl)]
  simp
@[simp] theorem neA_str (a b : Str) (k) : oNeA (.str a) (.str b) k = k (.bl (!decide (a = b))) := by
  show (if scalD (.str a) (.str b) = true then k (.bl (!decide (V.str a = V.str b))) else _) = _
  rw [if_pos (show scalD (.str a) (.str b) = true from rfl)]
  simp
@[simp] theorem neA_bl (a b : Bool) (k) : oNeA (.bl a) (.bl b) k = k (.bl (!decide (a = b))) := by
  show (if scalD (.bl a) (.bl b) = true then k (.bl (!decide (V.bl a = V.bl b))) else _) = _
  rw [if_pos (show scalD (.bl a) (.bl b) = true from rfl)]
  simp
@[simp] theorem isi_NoneType_int : isiB "NoneType" "int" = some false := by decide +kernel
@[simp] theorem isi_NoneType_bool : isiB "NoneType" "bool" = some false := by decide +kernel
@[simp] theorem isi_NoneType_str : isiB "NoneType" "str" = some false := by decide +kernel
@[simp] theorem isi_NoneType_tuple : isiB "NoneType" "tuple" = some false := by decide +kernel
@[simp] theorem isi_NoneType_list : isiB "NoneType" "list" = some false := by decide +kernel
@[simp] theorem isi_bool_int : isiB "bool" "int" = some true := by decide +kernel
@[simp] theorem isi_bool_bool : isiB "bool" "bool" = some true := by decide +kernel
@[simp] theorem isi_bool_str : isiB "bool" "str" = some false := by decide +kernel
@[simp] theorem isi_bool_tuple : isiB "bool" "tuple" = some false := by decide +kernel
@[simp] theorem isi_bool_list : isiB "bool" "list" = some false := by decide +kernel
@[simp] theorem isi_int_int : isiB "int" "int" = some true := by decide +kernel
@[simp] theorem isi_int_bool : isiB "int" "bool" = some false := by decide +kernel
@[simp] theorem isi_int_str : isiB "int" "str" = some false := by decide +kernel
@[simp] theorem isi_int_tuple : isiB "int" "tuple" = some false := by decide +kernel
@[simp] theorem isi_int_list : isiB "int" "list" = some false := by decide +kernel
@[simp] theorem isi_str_int : isiB "str" "int" = some false := by decide +kernel
@[simp] theorem isi_str_bool : isiB "str" "bool" = some false := by decide +kernel
@[simp] theorem isi_str_str : isiB "str" "str" = some true := by decide +kernel
@[simp] theorem isi_str_tuple : isiB "str" "tuple" = some false := by decide +kernel
@[simp] theorem isi_str_list : isiB "str" "list" = some false := by decide +kernel
@[simp] theorem isi_list_int : isiB "list" "int" = some false := by decide +kernel
@[simp] theorem isi_list_bool : isiB "list" "bool" = some false := by decide +kernel
@[simp] theorem isi_list_str : isiB "list" "str" = some false := by decide +kernel
@[simp] theorem isi_list_tuple : isiB "list" "tuple" = some false := by decide +kernel
@[simp] theorem isi_list_list : isiB "list" "list" = some true := by decide +kernel
@[simp] theorem isi_tuple_int : isiB "tuple" "int" = some false := by decide +kernel
@[simp] theorem isi_tuple_bool : isiB "tuple" "bool" = some false := by decide +kernel
@[simp] theorem isi_tuple_str : isiB "tuple" "str" = some false := by decide +kernel
@[simp] theorem isi_tuple_tuple : isiB "tuple" "tuple" = some true := by decide +kernel
@[simp] theorem isi_tuple_list : isiB "tuple" "list" = some false := by decide +kernel
@[simp] theorem isi_dict_int : isiB "dict" "int" = some false := by decide +kernel
@[simp] theorem isi_dict_bool : isiB "dict" "bool" = some false := by decide +kernel
@[simp] theorem isi_dict_str : isiB "dict" "str" = some false := by decide +kernel
@[simp] theorem isi_dict_tuple : isiB "dict" "tuple" = some false := by decide +kernel
@[simp] theorem isi_dict_list : isiB "dict" "list" = some false := by decide +kernel
@[simp] theorem ownA_d (d : D) : ownA (.d d) = none := id rfl
@[simp] theorem ownA_un : ownA .un = none := id rfl
def leS (a b : Str) : Bool := !decide (b.cps.toList < a.cps.toList)
def ltS (a b : Str) : Bool := decide (a.cps.toList < b.cps.toList)
@[simp] theorem le_ii (a b : Int) (k) : oLeA (.int a) (.int b) k = k (.bl (decide (a ≤ b))) := id rfl
@[simp] theorem le_ss (a b : Str) (k) : oLeA (.str a) (.str b) k = k (.bl (leS a b)) := id rfl
@[simp] theorem lt_ii (a b : Int) (k) : oLtA (.int a) (.int b) k = k (.bl (decide (a < b))) := id rfl
@[simp] theorem lt_ss (a b : Str) (k) : oLtA (.str a) (.str b) k = k (.bl (ltS a b)) := id rfl
@[simp] theorem gt_ii (a b : Int) (k) : oGtA (.int a) (.int b) k = k (.bl (decide (b < a))) := id rfl
@[simp] theorem add_ii (a b : Int) (k) : oAddA (.int a) (.int b) k = k (.int (a + b)) := id rfl
@[simp] theorem add_ss (a b : Str) (k) : oAddA (.str a) (.str b) k = (a.length + b.length ≤ sizeLine ∧ k (.str (a ++ b))) := id rfl
@[simp] theorem kB_bl (Q) (b : Bool) : kB Q (.bl b) = Q b := id rfl
@[simp] theorem kI_int (Q) (b : Int) : kI Q (.int b) = Q b := id rfl
@[simp] theorem kS_str (Q) (b : Str) : kS Q (.str b) = Q b := id rfl
@[simp] theorem kD_dct (Q) (b) : kD Q (.dct b) = Q b := id rfl
@[simp] theorem kO_obj (Ca C Q) (b) : kO Ca Q (.obj C b) = (C = Ca ∧ Q b) := id rfl
@[simp] theorem rsD_d (e) (x : D) (k) : rsD e (.d x) k = k x := id rfl
@[simp] theorem rsD_io (e i k) : rsD e (.io i) k = pkD e[i]? k := id rfl
@[simp] theorem pkD_d (x : D) (k) : pkD (some (.d x)) k = k x := id rfl
@[simp] theorem pkD_own (a) (x : D) (k) : pkD (some (.own a x)) k = k x := id rfl
@[simp] theorem isOwn_own (a) (x : D) (k) : isOwn (some (.own a x)) k = k := id rfl
@[simp] theorem lstO_own (a ds k) : lstO (some (.own a (.lst ds))) k = k a ds := id rfl
@[simp] theorem dctO_own (a ds k) : dctO (some (.own a (.dct ds))) k = k a ds := id rfl
@[simp] theorem objO_own (Ca C a ds k) : objO Ca (some (.own a (.obj C ds))) k = (C = Ca ∧ k ds a) := id rfl
@[simp] theorem sqD_lst (ds k) : sqD (.lst ds) k = k ds := id rfl
@[simp] theorem sqD_tup (ds k) : sqD (.tup ds) k = k ds := id rfl
@[simp] theorem sqD_scr (ds k) : sqD (.scr ds) k = k ds := id rfl
@[simp] theorem len_lst (ds k) : oLen (.lst ds) k = k (.int ds.length) := id rfl
@[simp] theorem len_tup (ds k) : oLen (.tup ds) k = k (.int ds.length) := id rfl
@[simp] theorem len_scr (ds k) : oLen (.scr ds) k = k (.int ds.length) := id rfl
@[simp] theorem len_str (z : Str) (k) : oLen (.str z) k = (z.length ≤ sizeLine ∧ k (.int z.length)) := id rfl
@[simp] theorem ix_lst (ds i k) : oIx (.lst ds) (.int i) k = ∃ d, atI ds i = some d ∧ k d := id rfl
@[simp] theorem ix_tup (ds i k) : oIx (.tup ds) (.int i) k = ∃ d, atI ds i = some d ∧ k d := id rfl
@[simp] theorem ix_scr (ds i k) : oIx (.scr ds) (.int i) k = ∃ d, atI ds i = some d ∧ k d := id rfl
@[simp] theorem ix_str (z : Str) (i k) : oIx (.str z) (.int i) k = (z.length ≤ sizeLine ∧ ∃ c, atI z.cps.toList i = some c ∧ k (.str ⟨#[c]⟩)) := id rfl
theorem ixN_nat (m n : Nat) : ixN m (n : Int) = if n < m then some n else none := by
  unfold ixN
  rw [if_pos (by omega)]
  by_cases h : n < m
  · rw [if_pos h, if_pos (by omega)]; simp
  · rw [if_neg h, if_neg (by omega)]
theorem atI_nat {α : Type} (l : List α) (n : Nat) : atI l (n : Int) = l[n]? := by
  unfold atI
  rw [ixN_nat]
  by_cases h : n < l.length
  · rw [if_pos h]; rfl
  · rw [if_neg h, List.getElem?_eq_none (by omega)]; rfl
@[simp] theorem atI_0 {α : Type} (x : α) (l) : atI (x :: l) 0 = some x := atI_nat (x :: l) 0
@[simp] theorem atI_1 {α : Type} (x y : α) (l) : atI (x :: y :: l) 1 = some y := atI_nat (x :: y :: l) 1
@[simp] theorem atI_2 {α : Type} (x y z : α) (l) : atI (x :: y :: z :: l) 2 = some z := atI_nat (x :: y :: z :: l) 2
@[simp] theorem ixN_3_0 : ixN 3 0 = some 0 := by decide
@[simp] theorem ixN_3_1 : ixN 3 1 = some 1 := by decide
@[simp] theorem ixN_3_2 : ixN 3 2 = some 2 := by decide
@[simp] theorem cat_ll (a b k) : oCat (.lst a) (.lst b) k = (a.length + b.length ≤ sizeLine ∧ k (.lst (a ++ b))) := id rfl
@[simp] theorem inA_str (n j i k) : oInA n (.str i) (.str j) k = k (.bl (if n then !(!(Builtin.Str.occurrences j i 0 j.length 1).isEmpty) else !(Builtin.Str.occurrences j i 0 j.length 1).isEmpty)) := id rfl
@[simp] theorem isN_d (x : D) (k) : oIsN x .non k = (isAdr x = false ∧ k (.bl (isNon x))) := id rfl
@[simp] theorem notN_d (x : D) (k) : oNotN x .non k = (isAdr x = false ∧ k (.bl (!isNon x))) := id rfl
@[simp] theorem outs_own {a : Addr} {x y : D} {as : List Slot} {es : En} {Q : List D → Prop} : (∃ xs, Outs (.own a x :: as) (.own a y :: es) xs ∧ Q xs) ↔ ∃ ys, Outs as es ys ∧ Q (y :: ys) := by
  constructor
  · rintro ⟨xs, h, q⟩
    cases xs with
    | nil => exact h.elim
    | cons z zs =>
      obtain ⟨h1, h2⟩ := h
      cases h1
      exact ⟨zs, h2, q⟩
  · rintro ⟨ys, h, q⟩
    exact ⟨y :: ys, ⟨rfl, h⟩, q⟩
@[simp] theorem outs_d {x : D} {as : List Slot} {s : Slot} {es : En} {xs : List D} : Outs (.d x :: as) (s :: es) xs = Outs as es xs := by cases xs <;> rfl
@[simp] theorem outs_nil {es : En} {xs : List D} : Outs [] es xs = (xs = []) := by cases es <;> cases xs <;> rfl
theorem rngD_len (lo : Int) (n : Nat) : (rngD lo n).length = n := by unfold rngD; rw [List.length_map, List.length_range]
@[simp] theorem rtD_d (Q e as x xs) : rtD Q e as (.d x) xs = Q x (putB e as xs) := id rfl
@[simp] theorem rtF_own (Q e as a x xs) : rtF Q e as (.own a x) xs = Q x (putB e as xs) := id rfl
@[simp] theorem putB_nil (e) (xs) : putB e [] xs = e := by cases xs <;> rfl
@[simp] theorem putB_dd (e x as xs) : putB e (.d x :: as) xs = putB e as xs := by cases xs <;> rfl
@[simp] theorem rsS_d (e) (x : D) : rsS e (.d x) = .d x := id rfl
@[simp] theorem rsS_io (e) (i : Nat) : rsS e (.io i) = (e[i]?).getD .un := id rfl
@[simp] theorem ioIx_nil : ioIx [] = [] := id rfl
@[simp] theorem ioIx_d (x as) : ioIx (.d x :: as) = ioIx as := id rfl
@[simp] theorem ioIx_io (i as) : ioIx (.io i :: as) = i :: ioIx as := id rfl
@[simp] theorem nodupN_nil : nodupN [] = true := id rfl
@[simp] theorem nodupN_one (i) : nodupN [i] = true := id rfl
theorem inV_strs (w : Str) : ∀ ss : List Str, L2.inV (.str w) (ss.map V.str) = decide (w ∈ ss)
  | [] => rfl
  | x :: r => by
    have ih := inV_strs w r
    unfold L2.inV at ih ⊢
    rw [List.map_cons, List.any_cons, ih]
    by_cases h : w = x
    · subst h
      have : L2.eqV (V.str w) (V.str w) = true := by show decide _ = true; simp
      rw [this]; simp
    · have : L2.eqV (V.str x) (V.str w) = false := by show decide _ = false; simp; exact fun z => h z.symm
      rw [this]; simp [h]
theorem strs_sc (ss : List Str) : (ss.map D.str).all isSc = true ∧ ((ss.map D.str).map toV) = ss.map V.str ∧ (ss.map V.str).all L2.flatV = true := by
  refine ⟨by simp [isSc], by rw [List.map_map]; rfl, by simp [L2.flatV]⟩
@[simp] theorem inA_strsL (n) (w : Str) (ss : List Str) (k) : oInA n (.str w) (.lst (ss.map .str)) k = k (.bl (if n then !decide (w ∈ ss) else decide (w ∈ ss))) := by
  obtain ⟨h1, h2, h3⟩ := strs_sc ss
  show (isSc (.str w) = true ∧ _ ∧ L2.flatV (.str w) = true ∧ _ ∧ k (.bl (if n then !L2.inV (.str w) _ else L2.inV (.str w) _))) = _
  rw [h2, inV_strs]
  simp only [h1, h3, isSc, L2.flatV, true_and]
@[simp] theorem inA_strsT (n) (w : Str) (ss : List Str) (k) : oInA n (.str w) (.tup (ss.map .str)) k = k (.bl (if n then !decide (w ∈ ss) else decide (w ∈ ss))) := by
  obtain ⟨h1, h2, h3⟩ := strs_sc ss
  show (isSc (.str w) = true ∧ _ ∧ L2.flatV (.str w) = true ∧ _ ∧ k (.bl (if n then !L2.inV (.str w) _ else L2.inV (.str w) _))) = _
  rw [h2, inV_strs]
  simp only [h1, h3, isSc, L2.flatV, true_and]
@[simp] theorem sne_0_1 : (Str.ofString "size" = Str.ofString "designated") = False := eq_false (by decide +kernel)
@[simp] theorem sne_0_2 : (Str.ofString "size" = Str.ofString "tables") = False := eq_false (by decide +kernel)
@[simp] theorem sne_0_3 : (Str.ofString "size" = Str.ofString "names") = False := eq_false (by decide +kernel)
@[simp] theorem sne_0_4 : (Str.ofString "size" = Str.ofString "loose") = False := eq_false (by decide +kernel)
@[simp] theorem sne_0_5 : (Str.ofString "size" = Str.ofString "_places") = False := eq_false (by decide +kernel)
@[simp] theorem sne_0_6 : (Str.ofString "size" = Str.ofString "_entries") = False := eq_false (by decide +kernel)
@[simp] theorem sne_1_0 : (Str.ofString "designated" = Str.ofString "size") = False := eq_false (by decide +kernel)
@[simp] theorem sne_1_2 : (Str.ofString "designated" = Str.ofString "tables") = False := eq_false (by decide +kernel)
@[simp] theorem sne_1_3 : (Str.ofString "designated" = Str.ofString "names") = False := eq_false (by decide +kernel)
@[simp] theorem sne_1_4 : (Str.ofString "designated" = Str.ofString "loose") = False := eq_false (by decide +kernel)
@[simp] theorem sne_1_5 : (Str.ofString "designated" = Str.ofString "_places") = False := eq_false (by decide +kernel)
@[simp] theorem sne_1_6 : (Str.ofString "designated" = Str.ofString "_entries") = False := eq_false (by decide +kernel)
@[simp] theorem sne_2_0 : (Str.ofString "tables" = Str.ofString "size") = False := eq_false (by decide +kernel)
@[simp] theorem sne_2_1 : (Str.ofString "tables" = Str.ofString "designated") = False := eq_false (by decide +kernel)
@[simp] theorem sne_2_3 : (Str.ofString "tables" = Str.ofString "names") = False := eq_false (by decide +kernel)
@[simp] theorem sne_2_4 : (Str.ofString "tables" = Str.ofString "loose") = False := eq_false (by decide +kernel)
@[simp] theorem sne_2_5 : (Str.ofString "tables" = Str.ofString "_places") = False := eq_false (by decide +kernel)
@[simp] theorem sne_2_6 : (Str.ofString "tables" = Str.ofString "_entries") = False := eq_false (by decide +kernel)
@[simp] theorem sne_3_0 : (Str.ofString "names" = Str.ofString "size") = False := eq_false (by decide +kernel)
@[simp] theorem sne_3_1 : (Str.ofString "names" = Str.ofString "designated") = False := eq_false (by decide +kernel)
@[simp] theorem sne_3_2 : (Str.ofString "names" = Str.ofString "tables") = False := eq_false (by decide +kernel)
@[simp] theorem sne_3_4 : (Str.ofString "names" = Str.ofString "loose") = False := eq_false (by decide +kernel)
@[simp] theorem sne_3_5 : (Str.ofString "names" = Str.ofString "_places") = False := eq_false (by decide +kernel)
@[simp] theorem sne_3_6 : (Str.ofString "names" = Str.ofString "_entries") = False := eq_false (by decide +kernel)
@[simp] theorem sne_4_0 : (Str.ofString "loose" = Str.ofString "size") = False := eq_false (by decide +kernel)
@[simp] theorem sne_4_1 : (Str.ofString "loose" = Str.ofString "designated") = False := eq_false (by decide +kernel)
@[simp] theorem sne_4_2 : (Str.ofString "loose" = Str.ofString "tables") = False := eq_false (by decide +kernel)
@[simp] theorem sne_4_3 : (Str.ofString "loose" = Str.ofString "names") = False := eq_false (by decide +kernel)
@[simp] theorem sne_4_5 : (Str.ofString "loose" = Str.ofString "_places") = False := eq_false (by decide +kernel)
@[simp] theorem sne_4_6 : (Str.ofString "loose" = Str.ofString "_entries") = False := eq_false (by decide +kernel)
@[simp] theorem sne_5_0 : (Str.ofString "_places" = Str.ofString "size") = False := eq_false (by decide +kernel)
@[simp] theorem sne_5_1 : (Str.ofString "_places" = Str.ofString "designated") = False := eq_false (by decide +kernel)
@[simp] theorem sne_5_2 : (Str.ofString "_places" = Str.ofString "tables") = False := eq_false (by decide +kernel)
@[simp] theorem sne_5_3 : (Str.ofString "_places" = Str.ofString "names") = False := eq_false (by decide +kernel)
@[simp] theorem sne_5_4 : (Str.ofString "_places" = Str.ofString "loose") = False := eq_false (by decide +kernel)
@[simp] theorem sne_5_6 : (Str.ofString "_places" = Str.ofString "_entries") = False := eq_false (by decide +kernel)
@[simp] theorem sne_6_0 : (Str.ofString "_entries" = Str.ofString "size") = False := eq_false (by decide +kernel)
@[simp] theorem sne_6_1 : (Str.ofString "_entries" = Str.ofString "designated") = False := eq_false (by decide +kernel)
@[simp] theorem sne_6_2 : (Str.ofString "_entries" = Str.ofString "tables") = False := eq_false (by decide +kernel)
@[simp] theorem sne_6_3 : (Str.ofString "_entries" = Str.ofString "names") = False := eq_false (by decide +kernel)
@[simp] theorem sne_6_4 : (Str.ofString "_entries" = Str.ofString "loose") = False := eq_false (by decide +kernel)
@[simp] theorem sne_6_5 : (Str.ofString "_entries" = Str.ofString "_places") = False := eq_false (by decide +kernel)
theorem lc_map {i : Nat} {te : ME} {Q : KE} {e : En} (no : noOwn e [i] = true) (f : D → D) : ∀ (ds acc : List D), (∀ d ∈ ds, ∀ K : KE, (∀ e4, rstE e e4 [i] = e → K (f d) e4) → te ((wipeE e [i]).set i (.d d)) K W0) → acc.length + ds.length ≤ 100000 → Q (.lst (acc ++ ds.map f)) e → lcD (mgN i) mYes te [i] Q ds acc e
  | [], acc, _, _, q => by
    rw [List.map_nil, List.append_nil] at q
    exact q
  | d :: ds, acc, h, hl, q => by
    refine ⟨no, ?_⟩
    unfold mgN mYes
    simp only [if_true]
    refine h d List.mem_cons_self _ fun e4 he => ⟨by rw [sizeLine_eq]; simp at hl; omega, ?_⟩
    rw [he]
    refine lc_map no f ds (acc ++ [f d]) (fun d' hd' => h d' (List.mem_cons_of_mem _ hd')) (by simp at hl ⊢; omega) ?_
    rw [List.append_assoc]
    exact q
theorem lc_filt {i : Nat} {tt : MT} {te : ME} {Q : KE} {e : En} (no : noOwn e [i] = true) (p : D → Bool) (f : D → D) : ∀ (ds acc : List D), (∀ d ∈ ds, ∀ K : Bool → En → Prop, (∀ e3, (∀ K2 : KE, (∀ e4, rstE e e4 [i] = e → K2 (f d) e4) → te e3 K2 W0) → rstE e e3 [i] = e → K (p d) e3) → tt ((wipeE e [i]).set i (.d d)) K W0) → acc.length + ds.length ≤ 100000 → Q (.lst (acc ++ (ds.filter p).map f)) e → lcD (mgN i) tt te [i] Q ds acc e
  | [], acc, _, _, q => by
    rw [List.filter_nil, List.map_nil, List.append_nil] at q
    exact q
  | d :: ds, acc, h, hl, q => by
    refine ⟨no, ?_⟩
    refine h d List.mem_cons_self _ fun e3 h3 he3 => ?_
    rw [List.filter_cons] at q
    cases hp : p d with
    | true =>
      rw [hp, if_pos rfl] at q
      rw [if_pos rfl]
      refine h3 _ fun e4 he => ⟨by rw [sizeLine_eq]; simp at hl; omega, ?_⟩
      rw [he]
      refine lc_filt no p f ds (acc ++ [f d]) (fun d' hd' => h d' (List.mem_cons_of_mem _ hd')) (by simp at hl ⊢; omega) ?_
      rw [List.append_assoc]
      exact q
    | false =>
      rw [hp, if_neg (by decide)] at q
      rw [if_neg (by decide), he3]
      exact lc_filt no p f ds acc (fun d' hd' => h d' (List.mem_cons_of_mem _ hd')) (by simp at hl ⊢; omega) q
@[simp] theorem isNon_non : isNon (.non) = true := id rfl
@[simp] theorem isAdr_non : isAdr (.non) = false := id rfl
@[simp] theorem isNon_bl (b : Bool) : isNon (.bl b) = false := id rfl
@[simp] theorem isAdr_bl (b : Bool) : isAdr (.bl b) = false := id rfl
@[simp] theorem isNon_int (b : Int) : isNon (.int b) = false := id rfl
@[simp] theorem isAdr_int (b : Int) : isAdr (.int b) = false := id rfl
@[simp] theorem isNon_str (b : Str) : isNon (.str b) = false := id rfl
@[simp] theorem isAdr_str (b : Str) : isAdr (.str b) = false := id rfl
@[simp] theorem isNon_tup (b) : isNon (.tup b) = false := id rfl
@[simp] theorem isAdr_tup (b) : isAdr (.tup b) = false := id rfl
@[simp] theorem isNon_lst (b) : isNon (.lst b) = false := id rfl
@[simp] theorem isAdr_lst (b) : isAdr (.lst b) = false := id rfl
@[simp] theorem isNon_dct (b) : isNon (.dct b) = false := id rfl
@[simp] theorem isAdr_dct (b) : isAdr (.dct b) = false := id rfl
@[simp] theorem isNon_scr (b) : isNon (.scr b) = false := id rfl
@[simp] theorem isAdr_scr (b) : isAdr (.scr b) = false := id rfl
end DL
set_option maxHeartbeats 4000000
namespace A
open PySem L2 DL
structure Txt (K : PySem.W.Frag) (mg : Str → Option Value) (cM : Addr) : Prop where
  b_len : mg "len" = none
  b_abs : mg "abs" = none
  b_int : mg "int" = none
  b_tuple : mg "tuple" = none
  b_list : mg "list" = none
  b_dict : mg "dict" = none
  b_isinstance : mg "isinstance" = none
  b_range : mg "range" = none
  b_reversed : mg "reversed" = none
  b_sorted : mg "sorted" = none
  b_str : mg "str" = none
  b_bool : mg "bool" = none
  b_super : mg "super" = none
  b_ValueError : mg "ValueError" = none
  cl_Matrix : Cls K cM
  n_Matrix_size : NoAttr K cM "size"
  n_Matrix_designated : NoAttr K cM "designated"
  n_Matrix_tables : NoAttr K cM "tables"
  n_Matrix_names : NoAttr K cM "names"
  n_Matrix_loose : NoAttr K cM "loose"
  n_Matrix__places : NoAttr K cM "_places"
  n_Matrix__entries : NoAttr K cM "_entries"
  g_LEAST_SIZE : ∃ u, mg "LEAST_SIZE" = some u ∧ RelV (.int 2) u
  g_GREATEST_SIZE : ∃ u, mg "GREATEST_SIZE" = some u ∧ RelV (.int 4) u
  g_PLACE_LIMIT : ∃ u, mg "PLACE_LIMIT" = some u ∧ RelV (.int 3) u
  g_ROW_LIMIT : ∃ u, mg "ROW_LIMIT" = some u ∧ RelV (.int 16) u
  g_TABLE_LIMIT : ∃ u, mg "TABLE_LIMIT" = some u ∧ RelV (.int 6) u
section
variable {P : Program} {w : World} {K : PySem.W.Frag} {mg : Str → Option Value} {base : Heap}
def top (i : Nat) : Stmt := PySem.Challenge.pw_anytruths_k86_formulas_parts_put.main.body.getD i (.Pass ⟨0, 0, 0, 0⟩)
/-! is_letter -/
abbrev s_is_letter : Stmt := top 7
abbrev nm_is_letter : List Str := ["word"]
abbrev ps_is_letter : List Str := ["word"]
theorem sc_is_letter : FnScope nm_is_letter ps_is_letter (defScope s_is_letter) := ⟨rfl, rfl, rfl, by decide +kernel, rfl, by decide +kernel, by decide +kernel⟩
def m_is_letter : MS :=
 (mRet (mAndV (mOpQ oEqA (mQE (mB1 oLen (mPk 0))) (mC (.int 1))) (mChain oLeA oLeA (mC (.str "a")) (mVar 0) (mC (.str "z")))))
theorem dv_is_letter {c_Matrix : Addr} (T : Txt K mg c_Matrix)  {f : Addr} (cdv : Value) (A : Around) (outer : List Env) (s : Shared) (H : Hp) (E : XK) (hr : Room 0 (A.deeper (PyProof.Rows.envOfC "is_letter" (defScope s_is_letter) s.heap.objs.size f cdv))) :
  RSs (cxOf (L2.CX P w) P w K mg base nm_is_letter "is_letter" (defScope s_is_letter) f cdv A outer s H E) (defBody s_is_letter) (m_is_letter) := by
  have nd := sc_is_letter.nd
  exact (rss_one (rs_ret (re_and (re_eqA hr.units (rq_e (re_B1 call_lenA lift_len (by rfl) T.b_len PySem.boot_len (rp_v (pv 0)))) (re_int).rp) (re_one (re_chain op_leA lift_IS op_leA lift_IS re_str (re_v (pv 0)) re_str)))))
/-! first_word -/
abbrev s_first_word : Stmt := top 12
abbrev nm_first_word : List Str := ["formula"]
abbrev ps_first_word : List Str := ["formula"]
theorem sc_first_word : FnScope nm_first_word ps_first_word (defScope s_first_word) := ⟨rfl, rfl, rfl, by decide +kernel, rfl, by decide +kernel, by decide +kernel⟩
def m_first_word : MS :=
 (mRet (mOpQ oIx (mQE (mSplit (mVar 0) (mC (.str " ")))) (mC (.int 0))))
theorem dv_first_word {c_Matrix : Addr} (T : Txt K mg c_Matrix)  {f : Addr} (cdv : Value) (A : Around) (outer : List Env) (s : Shared) (H : Hp) (E : XK) (hr : Room 0 (A.deeper (PyProof.Rows.envOfC "first_word" (defScope s_first_word) s.heap.objs.size f cdv))) :
  RSs (cxOf (L2.CX P w) P w K mg base nm_first_word "first_word" (defScope s_first_word) f cdv A outer s H E) (defBody s_first_word) (m_first_word) := by
  have nd := sc_first_word.nd
  exact (rss_one (rs_ret (re_ix (rq_e (((rf_split (re_v (pv 0)) re_str)).re)) re_int (fun _ _ => rfl))))
/-! is_value -/
abbrev s_is_value : Stmt := top 19
abbrev nm_is_value : List Str := ["size", "datum"]
abbrev ps_is_value : List Str := ["size", "datum"]
theorem sc_is_value : FnScope nm_is_value ps_is_value (defScope s_is_value) := ⟨rfl, rfl, rfl, by decide +kernel, rfl, by decide +kernel, by decide +kernel⟩
def m_is_value : MS :=
 (mRet (mAndV (mIsi "int" (mVar 1)) (mAndV (mNotV (mIsi "bool" (mVar 1))) (mChain oLeA oLtA (mC (.int 0)) (mVar 1) (mVar 0)))))
theorem dv_is_value {c_Matrix : Addr} (T : Txt K mg c_Matrix)  {f : Addr} (cdv : Value) (A : Around) (outer : List Env) (s : Shared) (H : Hp) (E : XK) (hr : Room 0 (A.deeper (PyProof.Rows.envOfC "is_value" (defScope s_is_value) s.heap.objs.size f cdv))) :
  RSs (cxOf (L2.CX P w) P w K mg base nm_is_value "is_value" (defScope s_is_value) f cdv A outer s H E) (defBody s_is_value) (m_is_value) := by
  have nd := sc_is_value.nd
  exact (rss_one (rs_ret (re_and (re_isi (by rfl) T.b_isinstance (re_v (pv 1)) (pe_bltn (v := .ty "int") (by rfl) T.b_int PyProof.Rows.boot_int rfl)) (re_and (re_not (re_isi (by rfl) T.b_isinstance (re_v (pv 1)) (pe_bltn (v := .ty "bool") (by rfl) T.b_bool PyProof.Rows.boot_bool rfl))) (re_one (re_chain op_leA lift_IS op_ltA lift_IS re_int (re_v (pv 1)) (re_v (pv 0))))))))
/-! is_sign -/
abbrev s_is_sign : Stmt := top 20
abbrev nm_is_sign : List Str := ["size", "datum", "least", "value"]
abbrev ps_is_sign : List Str := ["size", "datum"]
theorem sc_is_sign : FnScope nm_is_sign ps_is_sign (defScope s_is_sign) := ⟨rfl, rfl, rfl, by decide +kernel, rfl, by decide +kernel, by decide +kernel⟩
def m_is_sign (sp_is_value : SpD) : MS :=
 (mSeq (mIfS (mNot (mTest (mIsi "tuple" (mVar 1)))) (mRet (mC (.bl false))) mSkip)
 (mSeq (mSet 2 (mC (.int 0)))
 (mSeq (mFor (mSeqI (mVar 1)) (mgN 3) (mSeq (mIfS (mOr (mNot (mTest (mCall sp_is_value [] (mCons (mVar 0) (mCons (mVar 3) mNil))))) (mTest (mOp oLtA (mVar 3) (mVar 2)))) (mRet (mC (.bl false))) mSkip)
 (mSet 2 (mOp oAddA (mVar 3) (mC (.int 1))))))
 (mRet (mC (.bl true))))))
theorem dv_is_sign {c_Matrix : Addr} {sp_is_value : SpD} {a_is_value : Addr} (T : Txt K mg c_Matrix) (D_is_value : Def P w K mg base "is_value" a_is_value ps_is_value 1 sp_is_value) {f : Addr} (cdv : Value) (A : Around) (outer : List Env) (s : Shared) (H : Hp) (E : XK) (hr : Room 1 (A.deeper (PyProof.Rows.envOfC "is_sign" (defScope s_is_sign) s.heap.objs.size f cdv))) :
  RSs (cxOf (L2.CX P w) P w K mg base nm_is_sign "is_sign" (defScope s_is_sign) f cdv A outer s H E) (defBody s_is_sign) (m_is_sign sp_is_value) := by
  have nd := sc_is_sign.nd
  exact (rss_cons (rs_if (rt_not (rt_val (re_isi (by rfl) T.b_isinstance (re_v (pv 1)) (pe_bltn (v := .ty "tuple") (by rfl) T.b_tuple PyProof.Rows.boot_tuple rfl)))) (rss_one (rs_ret re_bl)) rss_nil)
 (rss_cons (rs_set (i := 2) nd rfl (by first | exact Or.inl rfl | exact Or.inr rfl) re_int)
 (rss_cons (rs_for (passes_of rfl) rfl (ri_seq (re_v (pv 1))) (rg_n (pg_name (i := 3) nd rfl (Or.inl rfl))) (rss_cons (rs_if ((rw_or (rt_not (rt_val (re_callD D_is_value hr (ra_cons (re_v (pv 0)) (ra_cons (re_v (pv 3)) ra_nil))))) (rw_or1 (rt_ltA (re_v (pv 3)) (re_v (pv 2)))))).rt (rss_one (rs_ret re_bl)) rss_nil)
 (rss_one (rs_set (i := 2) nd rfl (by first | exact Or.inl rfl | exact Or.inr rfl) (re_addA (re_v (pv 3)) re_int)))))
 (rss_one (rs_ret re_bl)))))
/-! row_count -/
abbrev s_row_count : Stmt := top 21
abbrev nm_row_count : List Str := ["size", "places", "count", "_"]
abbrev ps_row_count : List Str := ["size", "places"]
theorem sc_row_count : FnScope nm_row_count ps_row_count (defScope s_row_count) := ⟨rfl, rfl, rfl, by decide +kernel, rfl, by decide +kernel, by decide +kernel⟩
def m_row_count : MS :=
 (mSeq (mSet 2 (mC (.int 1)))
 (mSeq (mFor (mRng1 (mVar 1)) (mgN 3) (mSet 2 (mOp oMul (mVar 2) (mVar 0))))
 (mRet (mVar 2))))
theorem dv_row_count {c_Matrix : Addr} (T : Txt K mg c_Matrix)  {f : Addr} (cdv : Value) (A : Around) (outer : List Env) (s : Shared) (H : Hp) (E : XK) (hr : Room 0 (A.deeper (PyProof.Rows.envOfC "row_count" (defScope s_row_count) s.heap.objs.size f cdv))) :
  RSs (cxOf (L2.CX P w) P w K mg base nm_row_count "row_count" (defScope s_row_count) f cdv A outer s H E) (defBody s_row_count) (m_row_count) := by
  have nd := sc_row_count.nd
  exact (rss_cons (rs_set (i := 2) nd rfl (by first | exact Or.inl rfl | exact Or.inr rfl) re_int)
 (rss_cons (rs_for (passes_of rfl) rfl (ri_rng1 (by rfl) T.b_range (re_v (pv 1))) (rg_n (pg_name (i := 3) nd rfl (Or.inl rfl))) (rss_one (rs_set (i := 2) nd rfl (by first | exact Or.inl rfl | exact Or.inr rfl) (re_mul (re_v (pv 2)) (re_v (pv 0))))))
 (rss_one (rs_ret (re_v (pv 2))))))
/-! row_number -/
abbrev s_row_number : Stmt := top 22
abbrev nm_row_number : List Str := ["size", "row", "number", "value"]
abbrev ps_row_number : List Str := ["size", "row"]
theorem sc_row_number : FnScope nm_row_number ps_row_number (defScope s_row_number) := ⟨rfl, rfl, rfl, by decide +kernel, rfl, by decide +kernel, by decide +kernel⟩
def m_row_number : MS :=
 (mSeq (mSet 2 (mC (.int 0)))
 (mSeq (mFor (mSeqI (mVar 1)) (mgN 3) (mSet 2 (mOp oAddA (mOp oMul (mVar 2) (mVar 0)) (mVar 3))))
 (mRet (mVar 2))))
theorem dv_row_number {c_Matrix : Addr} (T : Txt K mg c_Matrix)  {f : Addr} (cdv : Value) (A : Around) (outer : List Env) (s : Shared) (H : Hp) (E : XK) (hr : Room 0 (A.deeper (PyProof.Rows.envOfC "row_number" (defScope s_row_number) s.heap.objs.size f cdv))) :
  RSs (cxOf (L2.CX P w) P w K mg base nm_row_number "row_number" (defScope s_row_number) f cdv A outer s H E) (defBody s_row_number) (m_row_number) := by
  have nd := sc_row_number.nd
  exact (rss_cons (rs_set (i := 2) nd rfl (by first | exact Or.inl rfl | exact Or.inr rfl) re_int)
 (rss_cons (rs_for (passes_of rfl) rfl (ri_seq (re_v (pv 1))) (rg_n (pg_name (i := 3) nd rfl (Or.inl rfl))) (rss_one (rs_set (i := 2) nd rfl (by first | exact Or.inl rfl | exact Or.inr rfl) (re_addA (re_mul (re_v (pv 2)) (re_v (pv 0))) (re_v (pv 3))))))
 (rss_one (rs_ret (re_v (pv 2))))))
/-! is_name -/
abbrev s_is_name : Stmt := top 29
abbrev nm_is_name : List Str := ["text", "char"]
abbrev ps_is_name : List Str := ["text"]
theorem sc_is_name : FnScope nm_is_name ps_is_name (defScope s_is_name) := ⟨rfl, rfl, rfl, by decide +kernel, rfl, by decide +kernel, by decide +kernel⟩
def m_is_name : MS :=
 (mSeq (mIfS (mNot (mTest (mChain oLeA oLeA (mC (.int 2)) (mB1 oLen (mPk 0)) (mC (.int 8))))) (mRet (mC (.bl false))) mSkip)
 (mSeq (mFor (mStrI (mVar 0)) (mgN 1) (mIfS (mNot (mTest (mChain oLeA oLeA (mC (.str "a")) (mVar 1) (mC (.str "z"))))) (mRet (mC (.bl false))) mSkip))
 (mRet (mC (.bl true)))))
theorem dv_is_name {c_Matrix : Addr} (T : Txt K mg c_Matrix)  {f : Addr} (cdv : Value) (A : Around) (outer : List Env) (s : Shared) (H : Hp) (E : XK) (hr : Room 0 (A.deeper (PyProof.Rows.envOfC "is_name" (defScope s_is_name) s.heap.objs.size f cdv))) :
  RSs (cxOf (L2.CX P w) P w K mg base nm_is_name "is_name" (defScope s_is_name) f cdv A outer s H E) (defBody s_is_name) (m_is_name) := by
  have nd := sc_is_name.nd
  exact (rss_cons (rs_if (rt_not (rt_chain op_leA lift_IS op_leA lift_IS re_int (re_B1 call_lenA lift_len (by rfl) T.b_len PySem.boot_len (rp_v (pv 0))) re_int)) (rss_one (rs_ret re_bl)) rss_nil)
 (rss_cons (rs_for (passes_of rfl) rfl (ri_str (re_v (pv 0))) (rg_n (pg_name (i := 1) nd rfl (Or.inl rfl))) (rss_one (rs_if (rt_not (rt_chain op_leA lift_IS op_leA lift_IS re_str (re_v (pv 1)) re_str)) (rss_one (rs_ret re_bl)) rss_nil)))
 (rss_one (rs_ret re_bl))))
/-! is_table -/
abbrev s_is_table : Stmt := top 30
abbrev nm_is_table : List Str := ["size", "places", "entries", "count", "entry"]
abbrev ps_is_table : List Str := ["size", "places", "entries"]
theorem sc_is_table : FnScope nm_is_table ps_is_table (defScope s_is_table) := ⟨rfl, rfl, rfl, by decide +kernel, rfl, by decide +kernel, by decide +kernel⟩
def m_is_table (sp_row_count sp_is_sign : SpD) : MS :=
 (mSeq (mIfS (mNot (mTest (mChain oLeA oLeA (mC (.int 0)) (mVar 1) (mC (.int 3))))) (mRet (mC (.bl false))) mSkip)
 (mSeq (mSet 3 (mCall sp_row_count [] (mCons (mVar 0) (mCons (mVar 1) mNil))))
 (mSeq (mIfS (mOr (mTest (mOp oGtA (mVar 3) (mC (.int 16)))) (mTest (mOpQ oNeA (mQE (mB1 oLen (mPk 2))) (mPk 3)))) (mRet (mC (.bl false))) mSkip)
 (mSeq (mFor (mSeqI (mVar 2)) (mgN 4) (mIfS (mOr (mTest (mOpQ oEqA (mQE (mB1 oLen (mPk 4))) (mC (.int 0)))) (mNot (mTest (mCall sp_is_sign [] (mCons (mVar 0) (mCons (mVar 4) mNil)))))) (mRet (mC (.bl false))) mSkip))
 (mRet (mC (.bl true)))))))
theorem dv_is_table {c_Matrix : Addr} {sp_row_count sp_is_sign : SpD} {a_row_count a_is_sign : Addr} (T : Txt K mg c_Matrix) (D_row_count : Def P w K mg base "row_count" a_row_count ps_row_count 1 sp_row_count) (D_is_sign : Def P w K mg base "is_sign" a_is_sign ps_is_sign 2 sp_is_sign) {f : Addr} (cdv : Value) (A : Around) (outer : List Env) (s : Shared) (H : Hp) (E : XK) (hr : Room 2 (A.deeper (PyProof.Rows.envOfC "is_table" (defScope s_is_table) s.heap.objs.size f cdv))) :
  RSs (cxOf (L2.CX P w) P w K mg base nm_is_table "is_table" (defScope s_is_table) f cdv A outer s H E) (defBody s_is_table) (m_is_table sp_row_count sp_is_sign) := by
  have nd := sc_is_table.nd
  exact (rss_cons (rs_if (rt_not (rt_chain op_leA lift_IS op_leA lift_IS re_int (re_v (pv 1)) (re_glob (by rfl) T.g_PLACE_LIMIT rfl))) (rss_one (rs_ret re_bl)) rss_nil)
 (rss_cons (rs_set (i := 3) nd rfl (by first | exact Or.inl rfl | exact Or.inr rfl) (re_callD D_row_count hr (ra_cons (re_v (pv 0)) (ra_cons (re_v (pv 1)) ra_nil))))
 (rss_cons (rs_if ((rw_or (rt_gtA (re_v (pv 3)) (re_glob (by rfl) T.g_ROW_LIMIT rfl)) (rw_or1 (rt_neA hr.units (rq_e (re_B1 call_lenA lift_len (by rfl) T.b_len PySem.boot_len (rp_v (pv 2)))) (rp_v (pv 3)))))).rt (rss_one (rs_ret re_bl)) rss_nil)
 (rss_cons (rs_for (passes_of rfl) rfl (ri_seq (re_v (pv 2))) (rg_n (pg_name (i := 4) nd rfl (Or.inl rfl))) (rss_one (rs_if ((rw_or (rt_eqA hr.units (rq_e (re_B1 call_lenA lift_len (by rfl) T.b_len PySem.boot_len (rp_v (pv 4)))) (re_int).rp) (rw_or1 (rt_not (rt_val (re_callD D_is_sign hr (ra_cons (re_v (pv 0)) (ra_cons (re_v (pv 4)) ra_nil)))))))).rt (rss_one (rs_ret re_bl)) rss_nil)))
 (rss_one (rs_ret re_bl))))))
/-! loose_table -/
abbrev s_loose_table : Stmt := top 32
abbrev nm_loose_table : List Str := ["tables", "name", "_", "entries", "entry"]
abbrev ps_loose_table : List Str := ["tables"]
theorem sc_loose_table : FnScope nm_loose_table ps_loose_table (defScope s_loose_table) := ⟨rfl, rfl, rfl, by decide +kernel, rfl, by decide +kernel, by decide +kernel⟩
def m_loose_table : MS :=
 (mSeq (mFor (mSeqI (mVar 0)) (mgTup (mgCons (mgN 1) (mgCons (mgN 2) (mgCons (mgN 3) mgNil)))) (mFor (mSeqI (mVar 3)) (mgN 4) (mIfS (mTest (mOp oGtA (mB1 oLen (mPk 4)) (mC (.int 1)))) (mRet (mVar 1)) mSkip)))
 (mRet (mC .non)))
theorem dv_loose_table {c_Matrix : Addr} (T : Txt K mg c_Matrix)  {f : Addr} (cdv : Value) (A : Around) (outer : List Env) (s : Shared) (H : Hp) (E : XK) (hr : Room 0 (A.deeper (PyProof.Rows.envOfC "loose_table" (defScope s_loose_table) s.heap.objs.size f cdv))) :
  RSs (cxOf (L2.CX P w) P w K mg base nm_loose_table "loose_table" (defScope s_loose_table) f cdv A outer s H E) (defBody s_loose_table) (m_loose_table) := by
  have nd := sc_loose_table.nd
  exact (rss_cons (rs_for (passes_of rfl) rfl (ri_seq (re_v (pv 0))) (rg_tup rfl (rgs_cons (rg_n (pg_name (i := 1) nd rfl (Or.inl rfl))) (rgs_cons (rg_n (pg_name (i := 2) nd rfl (Or.inl rfl))) (rgs_cons (rg_n (pg_name (i := 3) nd rfl (Or.inl rfl))) rgs_nil))) (mgConsN_len (mgConsN_len (mgConsN_len mgNil_len)))) (rss_one (rs_for (passes_of rfl) rfl (ri_seq (re_v (pv 3))) (rg_n (pg_name (i := 4) nd rfl (Or.inl rfl))) (rss_one (rs_if (rt_gtA (re_B1 call_lenA lift_len (by rfl) T.b_len PySem.boot_len (rp_v (pv 4))) re_int) (rss_one (rs_ret (re_v (pv 1)))) rss_nil)))))
 (rss_one (rs_ret re_non)))
/-! matrix_fault -/
abbrev s_matrix_fault : Stmt := top 31
abbrev nm_matrix_fault : List Str := ["size", "designated", "tables", "names", "name", "places", "entries"]
abbrev ps_matrix_fault : List Str := ["size", "designated", "tables"]
theorem sc_matrix_fault : FnScope nm_matrix_fault ps_matrix_fault (defScope s_matrix_fault) := ⟨rfl, rfl, rfl, by decide +kernel, rfl, by decide +kernel, by decide +kernel⟩
def m_matrix_fault (sp_is_sign sp_is_name sp_is_table : SpD) : MS :=
 (mSeq (mIfS (mNot (mTest (mChain oLeA oLeA (mC (.int 2)) (mVar 0) (mC (.int 4))))) (mRet (mC (.int 0))) mSkip)
 (mSeq (mIfS (mOr (mNot (mTest (mCall sp_is_sign [] (mCons (mVar 0) (mCons (mVar 1) mNil))))) (mNot (mTest (mChain oLtA oLtA (mC (.int 0)) (mB1 oLen (mPk 1)) (mVar 0))))) (mRet (mC (.int 1))) mSkip)
 (mSeq (mSetF 3 (mLst mL0))
 (mSeq (mFor (mSeqI (mVar 2)) (mgTup (mgCons (mgN 4) (mgCons (mgN 5) (mgCons (mgN 6) mgNil)))) (mSeq (mIfS (mOr (mTest (mOpQ oEqA (mQE (mB1 oLen (mPk 3))) (mC (.int 6)))) (mTest (mOpQ (oInA false) (mQE (mVar 4)) (mPk 3)))) (mRet (mOp oAddA (mC (.int 2)) (mB1 oLen (mPk 3)))) mSkip)
 (mSeq (mIfS (mOr (mNot (mTest (mCall sp_is_name [] (mCons (mVar 4) mNil)))) (mNot (mTest (mCall sp_is_table [] (mCons (mVar 0) (mCons (mVar 5) (mCons (mVar 6) mNil))))))) (mRet (mOp oAddA (mC (.int 2)) (mB1 oLen (mPk 3)))) mSkip)
 (mApp 3 (mVar 4)))))
 (mRet (mC .non))))))
theorem dv_matrix_fault {c_Matrix : Addr} {sp_is_sign sp_is_name sp_is_table : SpD} {a_is_sign a_is_name a_is_table : Addr} (T : Txt K mg c_Matrix) (D_is_sign : Def P w K mg base "is_sign" a_is_sign ps_is_sign 2 sp_is_sign) (D_is_name : Def P w K mg base "is_name" a_is_name ps_is_name 1 sp_is_name) (D_is_table : Def P w K mg base "is_table" a_is_table ps_is_table 3 sp_is_table) {f : Addr} (cdv : Value) (A : Around) (outer : List Env) (s : Shared) (H : Hp) (E : XK) (hr : Room 3 (A.deeper (PyProof.Rows.envOfC "matrix_fault" (defScope s_matrix_fault) s.heap.objs.size f cdv))) :
  RSs (cxOf (L2.CX P w) P w K mg base nm_matrix_fault "matrix_fault" (defScope s_matrix_fault) f cdv A outer s H E) (defBody s_matrix_fault) (m_matrix_fault sp_is_sign sp_is_name sp_is_table) := by
  have nd := sc_matrix_fault.nd
  exact (rss_cons (rs_if (rt_not (rt_chain op_leA lift_IS op_leA lift_IS (re_glob (by rfl) T.g_LEAST_SIZE rfl) (re_v (pv 0)) (re_glob (by rfl) T.g_GREATEST_SIZE rfl))) (rss_one (rs_ret re_int)) rss_nil)
 (rss_cons (rs_if ((rw_or (rt_not (rt_val (re_callD D_is_sign hr (ra_cons (re_v (pv 0)) (ra_cons (re_v (pv 1)) ra_nil))))) (rw_or1 (rt_not (rt_chain op_ltA lift_IS op_ltA lift_IS re_int (re_B1 call_lenA lift_len (by rfl) T.b_len PySem.boot_len (rp_v (pv 1))) (re_v (pv 0))))))).rt (rss_one (rs_ret re_int)) rss_nil)
 (rss_cons (rs_setF (i := 3) nd rfl (by first | exact Or.inl rfl | exact Or.inr rfl) (rf_lst rl_nil))
 (rss_cons (rs_for (passes_of rfl) rfl (ri_seq (re_v (pv 2))) (rg_tup rfl (rgs_cons (rg_n (pg_name (i := 4) nd rfl (Or.inl rfl))) (rgs_cons (rg_n (pg_name (i := 5) nd rfl (Or.inl rfl))) (rgs_cons (rg_n (pg_name (i := 6) nd rfl (Or.inl rfl))) rgs_nil))) (mgConsN_len (mgConsN_len (mgConsN_len mgNil_len)))) (rss_cons (rs_if ((rw_or (rt_eqA hr.units (rq_e (re_B1 call_lenA lift_len (by rfl) T.b_len PySem.boot_len (rp_v (pv 3)))) ((re_glob (by rfl) T.g_TABLE_LIMIT rfl)).rp) (rw_or1 (rt_inA (hu_of hr) (re_v (pv 4)) (rp_v (pv 3)))))).rt (rss_one (rs_ret (re_addA re_int (re_B1 call_lenA lift_len (by rfl) T.b_len PySem.boot_len (rp_v (pv 3)))))) rss_nil)
 (rss_cons (rs_if ((rw_or (rt_not (rt_val (re_callD D_is_name hr (ra_cons (re_v (pv 4)) ra_nil)))) (rw_or1 (rt_not (rt_val (re_callD D_is_table hr (ra_cons (re_v (pv 0)) (ra_cons (re_v (pv 5)) (ra_cons (re_v (pv 6)) ra_nil))))))))).rt (rss_one (rs_ret (re_addA re_int (re_B1 call_lenA lift_len (by rfl) T.b_len PySem.boot_len (rp_v (pv 3)))))) rss_nil)
 (rss_one (rs_app (pv 3) (re_v (pv 4)))))))
 (rss_one (rs_ret re_non))))))
/-! _law_cell -/
abbrev s_law_cell : Stmt := top 35
abbrev nm_law_cell : List Str := ["script", "k"]
abbrev ps_law_cell : List Str := ["script", "k"]
theorem sc_law_cell : FnScope nm_law_cell ps_law_cell (defScope s_law_cell) := ⟨rfl, rfl, rfl, by decide +kernel, rfl, by decide +kernel, by decide +kernel⟩
def m_law_cell : MS :=
 (mSeq (mIfS (mTest (mOp oLtA (mVar 1) (mB1 oLen (mPk 0)))) (mRet (mB1 oInt (mOpQ oIx (mQN 0) (mVar 1)))) mSkip)
 (mRet (mC (.int 0))))
theorem dv_law_cell {c_Matrix : Addr} (T : Txt K mg c_Matrix)  {f : Addr} (cdv : Value) (A : Around) (outer : List Env) (s : Shared) (H : Hp) (E : XK) (hr : Room 0 (A.deeper (PyProof.Rows.envOfC "_law_cell" (defScope s_law_cell) s.heap.objs.size f cdv))) :
  RSs (cxOf (L2.CX P w) P w K mg base nm_law_cell "_law_cell" (defScope s_law_cell) f cdv A outer s H E) (defBody s_law_cell) (m_law_cell) := by
  have nd := sc_law_cell.nd
  exact (rss_cons (rs_if (rt_ltA (re_v (pv 1)) (re_B1 call_lenA lift_len (by rfl) T.b_len PySem.boot_len (rp_v (pv 0)))) (rss_one (rs_ret (re_T1 call_int1 lift_int (by rfl) T.b_int PyProof.Rows.boot_int ((re_ix (rq_n (pv 0)) (re_v (pv 1)) (fun _ _ => rfl))).rp))) rss_nil)
 (rss_one (rs_ret re_int)))
/-! _law_stream -/
abbrev s_law_stream : Stmt := top 36
abbrev nm_law_stream : List Str := ["cell", "rest"]
abbrev ps_law_stream : List Str := ["cell"]
theorem sc_law_stream : FnScope nm_law_stream ps_law_stream (defScope s_law_stream) := ⟨rfl, rfl, rfl, by decide +kernel, rfl, by decide +kernel, by decide +kernel⟩
def m_law_stream : MS :=
 (mSeq (mSet 1 (mB1 oAbs (mB1 oInt (mPk 0))))
 (mSeq (mIfS (mTest (mOp oLtA (mVar 1) (mOp oPow (mC (.int 10)) (mC (.int 18))))) (mSet 1 (mC (.int 0))) mSkip)
 (mRetF (mLst (mL1 (mVar 1) (mL1 (mB1 oInt (mPk 0)) (mL1 (mC (.int 0)) mL0)))))))
theorem dv_law_stream {c_Matrix : Addr} (T : Txt K mg c_Matrix)  {f : Addr} (cdv : Value) (A : Around) (outer : List Env) (s : Shared) (H : Hp) (E : XK) (hr : Room 0 (A.deeper (PyProof.Rows.envOfC "_law_stream" (defScope s_law_stream) s.heap.objs.size f cdv))) :
  RSs (cxOf (L2.CX P w) P w K mg base nm_law_stream "_law_stream" (defScope s_law_stream) f cdv A outer s H E) (defBody s_law_stream) (m_law_stream) := by
  have nd := sc_law_stream.nd
  exact (rss_cons (rs_set (i := 1) nd rfl (by first | exact Or.inl rfl | exact Or.inr rfl) (re_B1 call_abs lift_abs (by rfl) T.b_abs (by decide +kernel) ((re_T1 call_int1 lift_int (by rfl) T.b_int PyProof.Rows.boot_int (rp_v (pv 0)))).rp))
 (rss_cons (rs_if (rt_ltA (re_v (pv 1)) (re_pow re_int re_int)) (rss_one (rs_set (i := 1) nd rfl (by first | exact Or.inl rfl | exact Or.inr rfl) re_int)) rss_nil)
 (rss_one (rs_retF (rf_lst (rl_cons (re_v (pv 1)) (rl_cons (re_T1 call_int1 lift_int (by rfl) T.b_int PyProof.Rows.boot_int (rp_v (pv 0))) (rl_cons re_int rl_nil))))))))
/-! _law_next -/
abbrev s_law_next : Stmt := top 37
abbrev nm_law_next : List Str := ["stream", "limit", "digit", "one", "two"]
abbrev ps_law_next : List Str := ["stream", "limit"]
theorem sc_law_next : FnScope nm_law_next ps_law_next (defScope s_law_next) := ⟨rfl, rfl, rfl, by decide +kernel, rfl, by decide +kernel, by decide +kernel⟩
def m_law_next : MS :=
 (mSeq (mPutL 0 (mOp oAddA (mOpQ oIx (mQN 0) (mC (.int 2))) (mC (.int 1))) (mC (.int 2)))
 (mSeq (mIfS (mTest (mOp oGtA (mOpQ oIx (mQN 0) (mC (.int 0))) (mC (.int 0)))) (mSeq (mSet 2 (mOp oMod (mB1 oInt (mOpQ oIx (mQN 0) (mC (.int 0)))) (mVar 1)))
 (mSeq (mPutL 0 (mOp oDiv (mB1 oInt (mOpQ oIx (mQN 0) (mC (.int 0)))) (mVar 1)) (mC (.int 0)))
 (mRet (mVar 2)))) mSkip)
 (mSeq (mSet 3 (mOp oMod (mB1 oInt (mOp oMul (mB1 oInt (mOp oAddA (mOp oMod (mB1 oInt (mOpQ oIx (mQN 0) (mC (.int 1)))) (mC (.int 2147483647))) (mOp oMul (mC (.int 7919)) (mOpQ oIx (mQN 0) (mC (.int 2)))))) (mC (.int 48271)))) (mC (.int 2147483647))))
 (mSeq (mSet 4 (mOp oMod (mB1 oInt (mOp oAddA (mOp oMul (mVar 3) (mVar 3)) (mOp oMul (mC (.int 69621)) (mOpQ oIx (mQN 0) (mC (.int 2)))))) (mC (.int 1000003))))
 (mRet (mOp oMod (mB1 oInt (mPk 4)) (mVar 1)))))))
theorem dv_law_next {c_Matrix : Addr} (T : Txt K mg c_Matrix)  {f : Addr} (cdv : Value) (A : Around) (outer : List Env) (s : Shared) (H : Hp) (E : XK) (hr : Room 0 (A.deeper (PyProof.Rows.envOfC "_law_next" (defScope s_law_next) s.heap.objs.size f cdv))) :
  RSs (cxOf (L2.CX P w) P w K mg base nm_law_next "_law_next" (defScope s_law_next) f cdv A outer s H E) (defBody s_law_next) (m_law_next) := by
  have nd := sc_law_next.nd
  exact (rss_cons (rs_putL (pv 0) re_int (re_addA (re_ix (rq_n (pv 0)) re_int (fun _ _ => rfl)) re_int))
 (rss_cons (rs_if (rt_gtA (re_ix (rq_n (pv 0)) re_int (fun _ _ => rfl)) re_int) (rss_cons (rs_set (i := 2) nd rfl (by first | exact Or.inl rfl | exact Or.inr rfl) (re_mod (re_T1 call_int1 lift_int (by rfl) T.b_int PyProof.Rows.boot_int ((re_ix (rq_n (pv 0)) re_int (fun _ _ => rfl))).rp) (re_v (pv 1))))
 (rss_cons (rs_putL (pv 0) re_int (re_div (re_T1 call_int1 lift_int (by rfl) T.b_int PyProof.Rows.boot_int ((re_ix (rq_n (pv 0)) re_int (fun _ _ => rfl))).rp) (re_v (pv 1))))
 (rss_one (rs_ret (re_v (pv 2)))))) rss_nil)
 (rss_cons (rs_set (i := 3) nd rfl (by first | exact Or.inl rfl | exact Or.inr rfl) (re_mod (re_T1 call_int1 lift_int (by rfl) T.b_int PyProof.Rows.boot_int ((re_mul (re_T1 call_int1 lift_int (by rfl) T.b_int PyProof.Rows.boot_int ((re_addA (re_mod (re_T1 call_int1 lift_int (by rfl) T.b_int PyProof.Rows.boot_int ((re_ix (rq_n (pv 0)) re_int (fun _ _ => rfl))).rp) re_int) (re_mul re_int (re_ix (rq_n (pv 0)) re_int (fun _ _ => rfl))))).rp) re_int)).rp) re_int))
 (rss_cons (rs_set (i := 4) nd rfl (by first | exact Or.inl rfl | exact Or.inr rfl) (re_mod (re_T1 call_int1 lift_int (by rfl) T.b_int PyProof.Rows.boot_int ((re_addA (re_mul (re_v (pv 3)) (re_v (pv 3))) (re_mul re_int (re_ix (rq_n (pv 0)) re_int (fun _ _ => rfl))))).rp) re_int))
 (rss_one (rs_ret (re_mod (re_T1 call_int1 lift_int (by rfl) T.b_int PyProof.Rows.boot_int (rp_v (pv 4))) (re_v (pv 1)))))))))
/-! _law_letter -/
abbrev s_law_letter : Stmt := top 38
abbrev nm_law_letter : List Str := ["stream"]
abbrev ps_law_letter : List Str := ["stream"]
theorem sc_law_letter : FnScope nm_law_letter ps_law_letter (defScope s_law_letter) := ⟨rfl, rfl, rfl, by decide +kernel, rfl, by decide +kernel, by decide +kernel⟩
def m_law_letter (sp_law_next : SpD) : MS :=
 (mRet (mOpQ oIx (mQE (mC (.str "abcdefghijklmnopqrstuvwxyz"))) (mCall sp_law_next [] (mConsIO 0 (mCons (mC (.int 26)) mNil)))))
theorem dv_law_letter {c_Matrix : Addr} {sp_law_next : SpD} {a_law_next : Addr} (T : Txt K mg c_Matrix) (D_law_next : Def P w K mg base "_law_next" a_law_next ps_law_next 1 sp_law_next) {f : Addr} (cdv : Value) (A : Around) (outer : List Env) (s : Shared) (H : Hp) (E : XK) (hr : Room 1 (A.deeper (PyProof.Rows.envOfC "_law_letter" (defScope s_law_letter) s.heap.objs.size f cdv))) :
  RSs (cxOf (L2.CX P w) P w K mg base nm_law_letter "_law_letter" (defScope s_law_letter) f cdv A outer s H E) (defBody s_law_letter) (m_law_letter sp_law_next) := by
  have nd := sc_law_letter.nd
  exact (rss_one (rs_ret (re_ix (rq_e re_str) (re_callD D_law_next hr (ra_io (pv 0) (ra_cons re_int ra_nil))) (fun _ _ => rfl))))
/-! _law_name -/
abbrev s_law_name : Stmt := top 39
abbrev nm_law_name : List Str := ["stream", "text", "k"]
abbrev ps_law_name : List Str := ["stream"]
theorem sc_law_name : FnScope nm_law_name ps_law_name (defScope s_law_name) := ⟨rfl, rfl, rfl, by decide +kernel, rfl, by decide +kernel, by decide +kernel⟩
def m_law_name (sp_law_next sp_law_letter : SpD) : MS :=
 (mSeq (mSet 1 (mC (.str "")))
 (mSeq (mFor (mRng1 (mOp oAddA (mC (.int 2)) (mCall sp_law_next [] (mConsIO 0 (mCons (mC (.int 7)) mNil))))) (mgN 2) (mSet 1 (mOp oAddA (mVar 1) (mCall sp_law_letter [] (mConsIO 0 mNil)))))
 (mRet (mVar 1))))
theorem dv_law_name {c_Matrix : Addr} {sp_law_next sp_law_letter : SpD} {a_law_next a_law_letter : Addr} (T : Txt K mg c_Matrix) (D_law_next : Def P w K mg base "_law_next" a_law_next ps_law_next 1 sp_law_next) (D_law_letter : Def P w K mg base "_law_letter" a_law_letter ps_law_letter 2 sp_law_letter) {f : Addr} (cdv : Value) (A : Around) (outer : List Env) (s : Shared) (H : Hp) (E : XK) (hr : Room 2 (A.deeper (PyProof.Rows.envOfC "_law_name" (defScope s_law_name) s.heap.objs.size f cdv))) :
  RSs (cxOf (L2.CX P w) P w K mg base nm_law_name "_law_name" (defScope s_law_name) f cdv A outer s H E) (defBody s_law_name) (m_law_name sp_law_next sp_law_letter) := by
  have nd := sc_law_name.nd
  exact (rss_cons (rs_set (i := 1) nd rfl (by first | exact Or.inl rfl | exact Or.inr rfl) re_str)
 (rss_cons (rs_for (passes_of rfl) rfl (ri_rng1 (by rfl) T.b_range (re_addA re_int (re_callD D_law_next hr (ra_io (pv 0) (ra_cons re_int ra_nil))))) (rg_n (pg_name (i := 2) nd rfl (Or.inl rfl))) (rss_one (rs_set (i := 1) nd rfl (by first | exact Or.inl rfl | exact Or.inr rfl) (re_addA (re_v (pv 1)) (re_callD D_law_letter hr (ra_io (pv 0) ra_nil))))))
 (rss_one (rs_ret (re_v (pv 1))))))
/-! _law_tables -/
abbrev s_law_tables : Stmt := top 40
abbrev nm_law_tables : List Str := ["stream", "tables", "names", "k", "name", "places", "entries", "j"]
abbrev ps_law_tables : List Str := ["stream"]
theorem sc_law_tables : FnScope nm_law_tables ps_law_tables (defScope s_law_tables) := ⟨rfl, rfl, rfl, by decide +kernel, rfl, by decide +kernel, by decide +kernel⟩
def m_law_tables (sp_law_next sp_law_name : SpD) : MS :=
 (mSeq (mSetF 1 (mLst mL0))
 (mSeq (mSetF 2 (mLst mL0))
 (mSeq (mFor (mRng1 (mCall sp_law_next [] (mConsIO 0 (mCons (mC (.int 7)) mNil)))) (mgN 3) (mSeq (mSet 4 (mCall sp_law_name [] (mConsIO 0 mNil)))
 (mSeq (mSet 5 (mCall sp_law_next [] (mConsIO 0 (mCons (mC (.int 4)) mNil))))
 (mSeq (mSetF 6 (mLst mL0))
 (mSeq (mFor (mRng1 (mOpQ oIx (mQE (mLst (mL1 (mC (.int 1)) (mL1 (mC (.int 2)) (mL1 (mC (.int 4)) (mL1 (mC (.int 8)) mL0)))))) (mVar 5))) (mgN 7) (mApp 6 (mOpQ oIx (mQE (mLst (mL1 (mTup (mL1 (mC (.int 0)) mL0)) (mL1 (mTup (mL1 (mC (.int 1)) mL0)) (mL1 (mTup (mL1 (mC (.int 0)) (mL1 (mC (.int 1)) mL0))) mL0))))) (mCall sp_law_next [] (mConsIO 0 (mCons (mC (.int 3)) mNil))))))
 (mIfS (mTest (mOpQ (oInA true) (mQE (mVar 4)) (mPk 2))) (mSeq (mApp 2 (mVar 4))
 (mApp 1 (mTup (mL1 (mVar 4) (mL1 (mVar 5) (mL1 (mB1 oTuple (mPk 6)) mL0)))))) mSkip))))))
 (mRet (mB1 oTuple (mPk 1))))))
theorem dv_law_tables {c_Matrix : Addr} {sp_law_next sp_law_name : SpD} {a_law_next a_law_name : Addr} (T : Txt K mg c_Matrix) (D_law_next : Def P w K mg base "_law_next" a_law_next ps_law_next 1 sp_law_next) (D_law_name : Def P w K mg base "_law_name" a_law_name ps_law_name 3 sp_law_name) {f : Addr} (cdv : Value) (A : Around) (outer : List Env) (s : Shared) (H : Hp) (E : XK) (hr : Room 3 (A.deeper (PyProof.Rows.envOfC "_law_tables" (defScope s_law_tables) s.heap.objs.size f cdv))) :
  RSs (cxOf (L2.CX P w) P w K mg base nm_law_tables "_law_tables" (defScope s_law_tables) f cdv A outer s H E) (defBody s_law_tables) (m_law_tables sp_law_next sp_law_name) := by
  have nd := sc_law_tables.nd
  exact (rss_cons (rs_setF (i := 1) nd rfl (by first | exact Or.inl rfl | exact Or.inr rfl) (rf_lst rl_nil))
 (rss_cons (rs_setF (i := 2) nd rfl (by first | exact Or.inl rfl | exact Or.inr rfl) (rf_lst rl_nil))
 (rss_cons (rs_for (passes_of rfl) rfl (ri_rng1 (by rfl) T.b_range (re_callD D_law_next hr (ra_io (pv 0) (ra_cons re_int ra_nil)))) (rg_n (pg_name (i := 3) nd rfl (Or.inl rfl))) (rss_cons (rs_set (i := 4) nd rfl (by first | exact Or.inl rfl | exact Or.inr rfl) (re_callD D_law_name hr (ra_io (pv 0) ra_nil)))
 (rss_cons (rs_set (i := 5) nd rfl (by first | exact Or.inl rfl | exact Or.inr rfl) (re_callD D_law_next hr (ra_io (pv 0) (ra_cons re_int ra_nil))))
 (rss_cons (rs_setF (i := 6) nd rfl (by first | exact Or.inl rfl | exact Or.inr rfl) (rf_lst rl_nil))
 (rss_cons (rs_for (passes_of rfl) rfl (ri_rng1 (by rfl) T.b_range (re_ix (rq_e (((rf_lst (rl_cons re_int (rl_cons re_int (rl_cons re_int (rl_cons re_int rl_nil)))))).re)) (re_v (pv 5)) (fun _ _ => rfl))) (rg_n (pg_name (i := 7) nd rfl (Or.inl rfl))) (rss_one (rs_app (pv 6) (re_ix (rq_e (((rf_lst (rl_cons (re_tup (rl_cons re_int rl_nil)) (rl_cons (re_tup (rl_cons re_int rl_nil)) (rl_cons (re_tup (rl_cons re_int (rl_cons re_int rl_nil))) rl_nil))))).re)) (re_callD D_law_next hr (ra_io (pv 0) (ra_cons re_int ra_nil))) (fun _ _ => rfl)))))
 (rss_one (rs_if (rt_notinA (hu_of hr) (re_v (pv 4)) (rp_v (pv 2))) (rss_cons (rs_app (pv 2) (re_v (pv 4)))
 (rss_one (rs_app (pv 1) (re_tup (rl_cons (re_v (pv 4)) (rl_cons (re_v (pv 5)) (rl_cons (re_T1n call_tuple_of lift_tuple (by rfl) T.b_tuple PyProof.Rows.boot_tuple (rp_v (pv 6))) rl_nil))))))) rss_nil)))))))
 (rss_one (rs_ret (re_T1n call_tuple_of lift_tuple (by rfl) T.b_tuple PyProof.Rows.boot_tuple (rp_v (pv 1))))))))
/-! _law_order -/
abbrev s_law_order : Stmt := top 42
abbrev nm_law_order : List Str := ["text"]
abbrev ps_law_order : List Str := ["text"]
theorem sc_law_order : FnScope nm_law_order ps_law_order (defScope s_law_order) := ⟨rfl, rfl, rfl, by decide +kernel, rfl, by decide +kernel, by decide +kernel⟩
def m_law_order : MS :=
 (mRet (mTup (mL1 (mB1 oLen (mSplit (mVar 0) (mC (.str " ")))) (mL1 (mVar 0) mL0))))
theorem dv_law_order {c_Matrix : Addr} (T : Txt K mg c_Matrix)  {f : Addr} (cdv : Value) (A : Around) (outer : List Env) (s : Shared) (H : Hp) (E : XK) (hr : Room 0 (A.deeper (PyProof.Rows.envOfC "_law_order" (defScope s_law_order) s.heap.objs.size f cdv))) :
  RSs (cxOf (L2.CX P w) P w K mg base nm_law_order "_law_order" (defScope s_law_order) f cdv A outer s H E) (defBody s_law_order) (m_law_order) := by
  have nd := sc_law_order.nd
  exact (rss_one (rs_ret (re_tup (rl_cons (re_B1 call_lenA lift_len (by rfl) T.b_len PySem.boot_len ((((rf_split (re_v (pv 0)) re_str)).re)).rp) (rl_cons (re_v (pv 0)) rl_nil)))))
/-! _law_is_letter -/
abbrev s_law_is_letter : Stmt := top 43
abbrev nm_law_is_letter : List Str := ["word"]
abbrev ps_law_is_letter : List Str := ["word"]
theorem sc_law_is_letter : FnScope nm_law_is_letter ps_law_is_letter (defScope s_law_is_letter) := ⟨rfl, rfl, rfl, by decide +kernel, rfl, by decide +kernel, by decide +kernel⟩
def m_law_is_letter : MS :=
 (mRet (mAndV (mOpQ oEqA (mQE (mB1 oLen (mPk 0))) (mC (.int 1))) (mOpQ (oInA false) (mQE (mVar 0)) (mC (.str "abcdefghijklmnopqrstuvwxyz")))))
theorem dv_law_is_letter {c_Matrix : Addr} (T : Txt K mg c_Matrix)  {f : Addr} (cdv : Value) (A : Around) (outer : List Env) (s : Shared) (H : Hp) (E : XK) (hr : Room 0 (A.deeper (PyProof.Rows.envOfC "_law_is_letter" (defScope s_law_is_letter) s.heap.objs.size f cdv))) :
  RSs (cxOf (L2.CX P w) P w K mg base nm_law_is_letter "_law_is_letter" (defScope s_law_is_letter) f cdv A outer s H E) (defBody s_law_is_letter) (m_law_is_letter) := by
  have nd := sc_law_is_letter.nd
  exact (rss_one (rs_ret (re_and (re_eqA hr.units (rq_e (re_B1 call_lenA lift_len (by rfl) T.b_len PySem.boot_len (rp_v (pv 0)))) (re_int).rp) (re_one (re_inA (hu_of hr) (re_v (pv 0)) (re_str).rp)))))
/-! _law_fault -/
abbrev s_law_fault : Stmt := top 44
abbrev nm_law_fault : List Str := ["tables", "text", "wanted", "count", "word", "places", "table"]
abbrev ps_law_fault : List Str := ["tables", "text"]
theorem sc_law_fault : FnScope nm_law_fault ps_law_fault (defScope s_law_fault) := ⟨rfl, rfl, rfl, by decide +kernel, rfl, by decide +kernel, by decide +kernel⟩
def m_law_fault (sp_law_is_letter : SpD) : MS :=
 (mSeq (mSet 2 (mC (.int 1)))
 (mSeq (mSet 3 (mC (.int 0)))
 (mSeq (mFor (mSeqI (mSplit (mVar 1) (mC (.str " ")))) (mgN 4) (mSeq (mSet 5 (mUn oNeg (mC (.int 1))))
 (mSeq (mIfS (mTest (mCall sp_law_is_letter [] (mCons (mVar 4) mNil))) (mSet 5 (mC (.int 0))) mSkip)
 (mSeq (mFor (mSeqI (mVar 0)) (mgN 6) (mIfS (mTest (mOpQ oEqA (mQE (mOpQ oIx (mQN 6) (mC (.int 0)))) (mPk 4))) (mSet 5 (mOpQ oIx (mQN 6) (mC (.int 1)))) mSkip))
 (mSeq (mIfS (mOr (mTest (mOpQ oEqA (mQN 2) (mC (.int 0)))) (mTest (mOp oLtA (mVar 5) (mC (.int 0))))) (mRet (mVar 3)) mSkip)
 (mSeq (mSet 2 (mOp oSub (mOp oAddA (mVar 2) (mVar 5)) (mC (.int 1))))
 (mSet 3 (mOp oAddA (mVar 3) (mC (.int 1))))))))))
 (mSeq (mIfS (mTest (mOp oGtA (mVar 2) (mC (.int 0)))) (mRet (mVar 3)) mSkip)
 (mRet (mC .non))))))
theorem dv_law_fault {c_Matrix : Addr} {sp_law_is_letter : SpD} {a_law_is_letter : Addr} (T : Txt K mg c_Matrix) (D_law_is_letter : Def P w K mg base "_law_is_letter" a_law_is_letter ps_law_is_letter 1 sp_law_is_letter) {f : Addr} (cdv : Value) (A : Around) (outer : List Env) (s : Shared) (H : Hp) (E : XK) (hr : Room 1 (A.deeper (PyProof.Rows.envOfC "_law_fault" (defScope s_law_fault) s.heap.objs.size f cdv))) :
  RSs (cxOf (L2.CX P w) P w K mg base nm_law_fault "_law_fault" (defScope s_law_fault) f cdv A outer s H E) (defBody s_law_fault) (m_law_fault sp_law_is_letter) := by
  have nd := sc_law_fault.nd
  exact (rss_cons (rs_set (i := 2) nd rfl (by first | exact Or.inl rfl | exact Or.inr rfl) re_int)
 (rss_cons (rs_set (i := 3) nd rfl (by first | exact Or.inl rfl | exact Or.inr rfl) re_int)
 (rss_cons (rs_for (passes_of rfl) rfl (ri_seq (((rf_split (re_v (pv 1)) re_str)).re)) (rg_n (pg_name (i := 4) nd rfl (Or.inl rfl))) (rss_cons (rs_set (i := 5) nd rfl (by first | exact Or.inl rfl | exact Or.inr rfl) (re_neg re_int))
 (rss_cons (rs_if (rt_val (re_callD D_law_is_letter hr (ra_cons (re_v (pv 4)) ra_nil))) (rss_one (rs_set (i := 5) nd rfl (by first | exact Or.inl rfl | exact Or.inr rfl) re_int)) rss_nil)
 (rss_cons (rs_for (passes_of rfl) rfl (ri_seq (re_v (pv 0))) (rg_n (pg_name (i := 6) nd rfl (Or.inl rfl))) (rss_one (rs_if (rt_eqA hr.units (rq_e (re_ix (rq_n (pv 6)) re_int (fun _ _ => rfl))) (rp_v (pv 4))) (rss_one (rs_set (i := 5) nd rfl (by first | exact Or.inl rfl | exact Or.inr rfl) (re_ix (rq_n (pv 6)) re_int (fun _ _ => rfl)))) rss_nil)))
 (rss_cons (rs_if ((rw_or (rt_eqA hr.units (rq_n (pv 2)) (re_int).rp) (rw_or1 (rt_ltA (re_v (pv 5)) re_int)))).rt (rss_one (rs_ret (re_v (pv 3)))) rss_nil)
 (rss_cons (rs_set (i := 2) nd rfl (by first | exact Or.inl rfl | exact Or.inr rfl) (re_sub (re_addA (re_v (pv 2)) (re_v (pv 5))) re_int))
 (rss_one (rs_set (i := 3) nd rfl (by first | exact Or.inl rfl | exact Or.inr rfl) (re_addA (re_v (pv 3)) re_int)))))))))
 (rss_cons (rs_if (rt_gtA (re_v (pv 2)) re_int) (rss_one (rs_ret (re_v (pv 3)))) rss_nil)
 (rss_one (rs_ret re_non))))))
/-! _law_same_integer -/
abbrev s_law_same_integer : Stmt := top 46
abbrev nm_law_same_integer : List Str := ["actual", "expected"]
abbrev ps_law_same_integer : List Str := ["actual", "expected"]
theorem sc_law_same_integer : FnScope nm_law_same_integer ps_law_same_integer (defScope s_law_same_integer) := ⟨rfl, rfl, rfl, by decide +kernel, rfl, by decide +kernel, by decide +kernel⟩
def m_law_same_integer : MS :=
 (mSeq (mIfS (mTest (mOp oIsN (mVar 1) (mC .non))) (mRet (mOp oIsN (mVar 0) (mC .non))) mSkip)
 (mRet (mAndV (mIsi "int" (mVar 0)) (mAndV (mNotV (mIsi "bool" (mVar 0))) (mOpQ oEqA (mQN 0) (mPk 1))))))
theorem dv_law_same_integer {c_Matrix : Addr} (T : Txt K mg c_Matrix)  {f : Addr} (cdv : Value) (A : Around) (outer : List Env) (s : Shared) (H : Hp) (E : XK) (hr : Room 0 (A.deeper (PyProof.Rows.envOfC "_law_same_integer" (defScope s_law_same_integer) s.heap.objs.size f cdv))) :
  RSs (cxOf (L2.CX P w) P w K mg base nm_law_same_integer "_law_same_integer" (defScope s_law_same_integer) f cdv A outer s H E) (defBody s_law_same_integer) (m_law_same_integer) := by
  have nd := sc_law_same_integer.nd
  exact (rss_cons (rs_if (rt_isN (re_v (pv 1))) (rss_one (rs_ret (re_isN (re_v (pv 0))))) rss_nil)
 (rss_one (rs_ret (re_and (re_isi (by rfl) T.b_isinstance (re_v (pv 0)) (pe_bltn (v := .ty "int") (by rfl) T.b_int PyProof.Rows.boot_int rfl)) (re_and (re_not (re_isi (by rfl) T.b_isinstance (re_v (pv 0)) (pe_bltn (v := .ty "bool") (by rfl) T.b_bool PyProof.Rows.boot_bool rfl))) (re_one (re_eqA hr.units (rq_n (pv 0)) (rp_v (pv 1)))))))))
/-! _law_same_texts -/
abbrev s_law_same_texts : Stmt := top 47
abbrev nm_law_same_texts : List Str := ["actual", "expected", "k"]
abbrev ps_law_same_texts : List Str := ["actual", "expected"]
theorem sc_law_same_texts : FnScope nm_law_same_texts ps_law_same_texts (defScope s_law_same_texts) := ⟨rfl, rfl, rfl, by decide +kernel, rfl, by decide +kernel, by decide +kernel⟩
def m_law_same_texts : MS :=
 (mSeq (mIfS (mOr (mNot (mTest (mIsi "tuple" (mVar 0)))) (mTest (mOpQ oNeA (mQE (mB1 oLen (mPk 0))) (mB1 oLen (mPk 1))))) (mRet (mC (.bl false))) mSkip)
 (mSeq (mFor (mRng1 (mB1 oLen (mPk 1))) (mgN 2) (mIfS (mOr (mNot (mTest (mIsi "str" (mOpQ oIx (mQN 0) (mVar 2))))) (mTest (mOpQ oNeA (mQE (mOpQ oIx (mQN 0) (mVar 2))) (mOpQ oIx (mQN 1) (mVar 2))))) (mRet (mC (.bl false))) mSkip))
 (mRet (mC (.bl true)))))
theorem dv_law_same_texts {c_Matrix : Addr} (T : Txt K mg c_Matrix)  {f : Addr} (cdv : Value) (A : Around) (outer : List Env) (s : Shared) (H : Hp) (E : XK) (hr : Room 0 (A.deeper (PyProof.Rows.envOfC "_law_same_texts" (defScope s_law_same_texts) s.heap.objs.size f cdv))) :
  RSs (cxOf (L2.CX P w) P w K mg base nm_law_same_texts "_law_same_texts" (defScope s_law_same_texts) f cdv A outer s H E) (defBody s_law_same_texts) (m_law_same_texts) := by
  have nd := sc_law_same_texts.nd
  exact (rss_cons (rs_if ((rw_or (rt_not (rt_val (re_isi (by rfl) T.b_isinstance (re_v (pv 0)) (pe_bltn (v := .ty "tuple") (by rfl) T.b_tuple PyProof.Rows.boot_tuple rfl)))) (rw_or1 (rt_neA hr.units (rq_e (re_B1 call_lenA lift_len (by rfl) T.b_len PySem.boot_len (rp_v (pv 0)))) ((re_B1 call_lenA lift_len (by rfl) T.b_len PySem.boot_len (rp_v (pv 1)))).rp)))).rt (rss_one (rs_ret re_bl)) rss_nil)
 (rss_cons (rs_for (passes_of rfl) rfl (ri_rng1 (by rfl) T.b_range (re_B1 call_lenA lift_len (by rfl) T.b_len PySem.boot_len (rp_v (pv 1)))) (rg_n (pg_name (i := 2) nd rfl (Or.inl rfl))) (rss_one (rs_if ((rw_or (rt_not (rt_val (re_isi (by rfl) T.b_isinstance (re_ix (rq_n (pv 0)) (re_v (pv 2)) (fun _ _ => rfl)) (pe_bltn (v := .ty "str") (by rfl) T.b_str PyProof.Rows.boot_str rfl)))) (rw_or1 (rt_neA hr.units (rq_e (re_ix (rq_n (pv 0)) (re_v (pv 2)) (fun _ _ => rfl))) ((re_ix (rq_n (pv 1)) (re_v (pv 2)) (fun _ _ => rfl))).rp)))).rt (rss_one (rs_ret re_bl)) rss_nil)))
 (rss_one (rs_ret re_bl))))
/-! Matrix.places -/
abbrev s_Matrix_places : Stmt := inClass (top 33) 7
abbrev nm_Matrix_places : List Str := ["self", "name"]
abbrev ps_Matrix_places : List Str := ["self", "name"]
theorem sc_Matrix_places : FnScope nm_Matrix_places ps_Matrix_places (defScope s_Matrix_places) := ⟨rfl, rfl, rfl, by decide +kernel, rfl, by decide +kernel, by decide +kernel⟩
def m_Matrix_places (c_Matrix x_NoConnective : Addr) : MS :=
 (mSeq (mIfS (mTest (mOpQ (oInA true) (mQE (mVar 1)) (mFld c_Matrix "_places" (mPk 0)))) (mRaise x_NoConnective "name" (mVar 1)) mSkip)
 (mRet (mOpQ oDGet (mQE (mFld c_Matrix "_places" (mPk 0))) (mVar 1))))
theorem dv_Matrix_places {c_Matrix x_NoConnective : Addr} (T : Txt K mg c_Matrix) (X_NoConnective : XDef P w K mg base "NoConnective" x_NoConnective "name") {f : Addr} (cdv : Value) (A : Around) (outer : List Env) (s : Shared) (H : Hp) (E : XK) (hr : Room 2 (A.deeper (PyProof.Rows.envOfC "Matrix.places" (defScope s_Matrix_places) s.heap.objs.size f cdv))) :
  RSs (cxOf (L2.CX P w) P w K mg base nm_Matrix_places "Matrix.places" (defScope s_Matrix_places) f cdv A outer s H E) (defBody s_Matrix_places) (m_Matrix_places c_Matrix x_NoConnective) := by
  have nd := sc_Matrix_places.nd
  exact (rss_cons (rs_if (rt_notinA (hu_of hr) (re_v (pv 1)) ((re_fld T.cl_Matrix T.n_Matrix__places (rp_v (pv 0)))).rp) (rss_one (rs_raise X_NoConnective rfl hr rfl (re_v (pv 1)))) rss_nil)
 (rss_one (rs_ret (re_dget (hu_of hr) (rq_e (re_fld T.cl_Matrix T.n_Matrix__places (rp_v (pv 0)))) (re_v (pv 1)) (fun _ _ => rfl)))))
/-! formula_fault -/
abbrev s_formula_fault : Stmt := top 8
abbrev nm_formula_fault : List Str := ["matrix", "text", "wanted", "number", "word"]
abbrev ps_formula_fault : List Str := ["matrix", "text"]
theorem sc_formula_fault : FnScope nm_formula_fault ps_formula_fault (defScope s_formula_fault) := ⟨rfl, rfl, rfl, by decide +kernel, rfl, by decide +kernel, by decide +kernel⟩
def m_formula_fault (c_Matrix : Addr) (sp_is_letter sp_Matrix_places : SpD) : MS :=
 (mSeq (mSet 2 (mC (.int 1)))
 (mSeq (mSet 3 (mC (.int 0)))
 (mSeq (mFor (mSeqI (mSplit (mVar 1) (mC (.str " ")))) (mgN 4) (mSeq (mIfS (mTest (mOpQ oEqA (mQN 2) (mC (.int 0)))) (mRet (mVar 3)) mSkip)
 (mSeq (mIfS (mTest (mCall sp_is_letter [] (mCons (mVar 4) mNil))) (mSet 2 (mOp oSub (mVar 2) (mC (.int 1)))) (mIfS (mTest (mOpQ (oInA false) (mQE (mVar 4)) (mFld c_Matrix "names" (mPk 0)))) (mSet 2 (mOp oSub (mOp oAddA (mVar 2) (mMeth c_Matrix "places" sp_Matrix_places [] (mVar 0) (mCons (mVar 4) mNil))) (mC (.int 1)))) (mRet (mVar 3))))
 (mSet 3 (mOp oAddA (mVar 3) (mC (.int 1)))))))
 (mSeq (mIfS (mTest (mOp oGtA (mVar 2) (mC (.int 0)))) (mRet (mVar 3)) mSkip)
 (mRet (mC .non))))))
theorem dv_formula_fault {c_Matrix : Addr} {sp_is_letter sp_Matrix_places : SpD} {a_is_letter a_Matrix_places : Addr} (T : Txt K mg c_Matrix) (D_is_letter : Def P w K mg base "is_letter" a_is_letter ps_is_letter 1 sp_is_letter) (D_Matrix_places : MDef P w K mg base c_Matrix "places" a_Matrix_places ps_Matrix_places 3 sp_Matrix_places) {f : Addr} (cdv : Value) (A : Around) (outer : List Env) (s : Shared) (H : Hp) (E : XK) (hr : Room 3 (A.deeper (PyProof.Rows.envOfC "formula_fault" (defScope s_formula_fault) s.heap.objs.size f cdv))) :
  RSs (cxOf (L2.CX P w) P w K mg base nm_formula_fault "formula_fault" (defScope s_formula_fault) f cdv A outer s H E) (defBody s_formula_fault) (m_formula_fault c_Matrix sp_is_letter sp_Matrix_places) := by
  have nd := sc_formula_fault.nd
  exact (rss_cons (rs_set (i := 2) nd rfl (by first | exact Or.inl rfl | exact Or.inr rfl) re_int)
 (rss_cons (rs_set (i := 3) nd rfl (by first | exact Or.inl rfl | exact Or.inr rfl) re_int)
 (rss_cons (rs_for (passes_of rfl) rfl (ri_seq (((rf_split (re_v (pv 1)) re_str)).re)) (rg_n (pg_name (i := 4) nd rfl (Or.inl rfl))) (rss_cons (rs_if (rt_eqA hr.units (rq_n (pv 2)) (re_int).rp) (rss_one (rs_ret (re_v (pv 3)))) rss_nil)
 (rss_cons (rs_if (rt_val (re_callD D_is_letter hr (ra_cons (re_v (pv 4)) ra_nil))) (rss_one (rs_set (i := 2) nd rfl (by first | exact Or.inl rfl | exact Or.inr rfl) (re_sub (re_v (pv 2)) re_int))) (rss_one (rs_if (rt_inA (hu_of hr) (re_v (pv 4)) ((re_fld T.cl_Matrix T.n_Matrix_names (rp_v (pv 0)))).rp) (rss_one (rs_set (i := 2) nd rfl (by first | exact Or.inl rfl | exact Or.inr rfl) (re_sub (re_addA (re_v (pv 2)) (re_methD D_Matrix_places hr (re_v (pv 0)) (ra_cons (re_v (pv 4)) ra_nil))) re_int))) (rss_one (rs_ret (re_v (pv 3)))))))
 (rss_one (rs_set (i := 3) nd rfl (by first | exact Or.inl rfl | exact Or.inr rfl) (re_addA (re_v (pv 3)) re_int))))))
 (rss_cons (rs_if (rt_gtA (re_v (pv 2)) re_int) (rss_one (rs_ret (re_v (pv 3)))) rss_nil)
 (rss_one (rs_ret re_non))))))
/-! formula_arguments -/
abbrev s_formula_arguments : Stmt := top 13
abbrev nm_formula_arguments : List Str := ["matrix", "formula", "found", "words", "wanted", "word"]
abbrev ps_formula_arguments : List Str := ["matrix", "formula"]
theorem sc_formula_arguments : FnScope nm_formula_arguments ps_formula_arguments (defScope s_formula_arguments) := ⟨rfl, rfl, rfl, by decide +kernel, rfl, by decide +kernel, by decide +kernel⟩
def m_formula_arguments (c_Matrix : Addr) (sp_is_letter sp_Matrix_places : SpD) : MS :=
 (mSeq (mSetF 2 (mLst mL0))
 (mSeq (mSetF 3 (mLst mL0))
 (mSeq (mSet 4 (mC (.int 1)))
 (mSeq (mFor (mSeqI (mSlL (mQE (mSplit (mVar 1) (mC (.str " ")))) (mO1 (mC (.int 1))) mO0)) (mgN 5) (mSeq (mApp 3 (mVar 5))
 (mSeq (mIfS (mTest (mCall sp_is_letter [] (mCons (mVar 5) mNil))) (mSet 4 (mOp oSub (mVar 4) (mC (.int 1)))) (mSet 4 (mOp oSub (mOp oAddA (mVar 4) (mMeth c_Matrix "places" sp_Matrix_places [] (mVar 0) (mCons (mVar 5) mNil))) (mC (.int 1)))))
 (mIfS (mTest (mOpQ oEqA (mQN 4) (mC (.int 0)))) (mSeq (mApp 2 (mJoin (mC (.str " ")) (mPk 3)))
 (mSeq (mSetF 3 (mLst mL0))
 (mSet 4 (mC (.int 1))))) mSkip))))
 (mRet (mB1 oTuple (mPk 2)))))))
theorem dv_formula_arguments {c_Matrix : Addr} {sp_is_letter sp_Matrix_places : SpD} {a_is_letter a_Matrix_places : Addr} (T : Txt K mg c_Matrix) (D_is_letter : Def P w K mg base "is_letter" a_is_letter ps_is_letter 1 sp_is_letter) (D_Matrix_places : MDef P w K mg base c_Matrix "places" a_Matrix_places ps_Matrix_places 3 sp_Matrix_places) {f : Addr} (cdv : Value) (A : Around) (outer : List Env) (s : Shared) (H : Hp) (E : XK) (hr : Room 3 (A.deeper (PyProof.Rows.envOfC "formula_arguments" (defScope s_formula_arguments) s.heap.objs.size f cdv))) :
  RSs (cxOf (L2.CX P w) P w K mg base nm_formula_arguments "formula_arguments" (defScope s_formula_arguments) f cdv A outer s H E) (defBody s_formula_arguments) (m_formula_arguments c_Matrix sp_is_letter sp_Matrix_places) := by
  have nd := sc_formula_arguments.nd
  exact (rss_cons (rs_setF (i := 2) nd rfl (by first | exact Or.inl rfl | exact Or.inr rfl) (rf_lst rl_nil))
 (rss_cons (rs_setF (i := 3) nd rfl (by first | exact Or.inl rfl | exact Or.inr rfl) (rf_lst rl_nil))
 (rss_cons (rs_set (i := 4) nd rfl (by first | exact Or.inl rfl | exact Or.inr rfl) re_int)
 (rss_cons (rs_for (passes_of rfl) rfl (ri_seq (((rf_slL (rq_e (((rf_split (re_v (pv 1)) re_str)).re)) (ro_some re_int) ro_none)).re)) (rg_n (pg_name (i := 5) nd rfl (Or.inl rfl))) (rss_cons (rs_app (pv 3) (re_v (pv 5)))
 (rss_cons (rs_if (rt_val (re_callD D_is_letter hr (ra_cons (re_v (pv 5)) ra_nil))) (rss_one (rs_set (i := 4) nd rfl (by first | exact Or.inl rfl | exact Or.inr rfl) (re_sub (re_v (pv 4)) re_int))) (rss_one (rs_set (i := 4) nd rfl (by first | exact Or.inl rfl | exact Or.inr rfl) (re_sub (re_addA (re_v (pv 4)) (re_methD D_Matrix_places hr (re_v (pv 0)) (ra_cons (re_v (pv 5)) ra_nil))) re_int))))
 (rss_one (rs_if (rt_eqA hr.units (rq_n (pv 4)) (re_int).rp) (rss_cons (rs_app (pv 2) (re_join re_str (rp_v (pv 3))))
 (rss_cons (rs_setF (i := 3) nd rfl (by first | exact Or.inl rfl | exact Or.inr rfl) (rf_lst rl_nil))
 (rss_one (rs_set (i := 4) nd rfl (by first | exact Or.inl rfl | exact Or.inr rfl) re_int)))) rss_nil)))))
 (rss_one (rs_ret (re_T1n call_tuple_of lift_tuple (by rfl) T.b_tuple PyProof.Rows.boot_tuple (rp_v (pv 2)))))))))
/-! is_formula -/
abbrev s_is_formula : Stmt := top 10
abbrev nm_is_formula : List Str := ["matrix", "datum"]
abbrev ps_is_formula : List Str := ["matrix", "datum"]
theorem sc_is_formula : FnScope nm_is_formula ps_is_formula (defScope s_is_formula) := ⟨rfl, rfl, rfl, by decide +kernel, rfl, by decide +kernel, by decide +kernel⟩
def m_is_formula (sp_formula_fault : SpD) : MS :=
 (mRet (mAndV (mIsi "str" (mVar 1)) (mOp oIsN (mCall sp_formula_fault [] (mCons (mVar 0) (mCons (mVar 1) mNil))) (mC .non))))
theorem dv_is_formula {c_Matrix : Addr} {sp_formula_fault : SpD} {a_formula_fault : Addr} (T : Txt K mg c_Matrix) (D_formula_fault : Def P w K mg base "formula_fault" a_formula_fault ps_formula_fault 4 sp_formula_fault) {f : Addr} (cdv : Value) (A : Around) (outer : List Env) (s : Shared) (H : Hp) (E : XK) (hr : Room 4 (A.deeper (PyProof.Rows.envOfC "is_formula" (defScope s_is_formula) s.heap.objs.size f cdv))) :
  RSs (cxOf (L2.CX P w) P w K mg base nm_is_formula "is_formula" (defScope s_is_formula) f cdv A outer s H E) (defBody s_is_formula) (m_is_formula sp_formula_fault) := by
  have nd := sc_is_formula.nd
  exact (rss_one (rs_ret (re_and (re_isi (by rfl) T.b_isinstance (re_v (pv 1)) (pe_bltn (v := .ty "str") (by rfl) T.b_str PyProof.Rows.boot_str rfl)) (re_one (re_isN (re_callD D_formula_fault hr (ra_cons (re_v (pv 0)) (ra_cons (re_v (pv 1)) ra_nil))))))))
/-! formula_order -/
abbrev s_formula_order : Stmt := top 11
abbrev nm_formula_order : List Str := ["formula"]
abbrev ps_formula_order : List Str := ["formula"]
theorem sc_formula_order : FnScope nm_formula_order ps_formula_order (defScope s_formula_order) := ⟨rfl, rfl, rfl, by decide +kernel, rfl, by decide +kernel, by decide +kernel⟩
def m_formula_order : MS :=
 (mRet (mTup (mL1 (mCount (mVar 0) (mC (.str " "))) (mL1 (mVar 0) mL0))))
theorem dv_formula_order {c_Matrix : Addr} (T : Txt K mg c_Matrix)  {f : Addr} (cdv : Value) (A : Around) (outer : List Env) (s : Shared) (H : Hp) (E : XK) (hr : Room 0 (A.deeper (PyProof.Rows.envOfC "formula_order" (defScope s_formula_order) s.heap.objs.size f cdv))) :
  RSs (cxOf (L2.CX P w) P w K mg base nm_formula_order "formula_order" (defScope s_formula_order) f cdv A outer s H E) (defBody s_formula_order) (m_formula_order) := by
  have nd := sc_formula_order.nd
  exact (rss_one (rs_ret (re_tup (rl_cons (re_count (re_v (pv 0)) re_str) (rl_cons (re_v (pv 0)) rl_nil)))))
/-! formula_letters -/
abbrev s_formula_letters : Stmt := top 16
abbrev nm_formula_letters : List Str := ["formulas", "found", "formula", "word"]
abbrev ps_formula_letters : List Str := ["formulas"]
theorem sc_formula_letters : FnScope nm_formula_letters ps_formula_letters (defScope s_formula_letters) := ⟨rfl, rfl, rfl, by decide +kernel, rfl, by decide +kernel, by decide +kernel⟩
def m_formula_letters (sp_is_letter : SpD) : MS :=
 (mSeq (mSetF 1 (mC (.dct [])))
 (mSeq (mFor (mSeqI (mVar 0)) (mgN 2) (mFor (mSeqI (mSplit (mVar 2) (mC (.str " ")))) (mgN 3) (mIfS (mTest (mCall sp_is_letter [] (mCons (mVar 3) mNil))) (mDPut 1 (mC (.bl true)) (mVar 3)) mSkip)))
 (mRet (mB1 oTuple (mB1 oSorted (mPk 1))))))
theorem dv_formula_letters {c_Matrix : Addr} {sp_is_letter : SpD} {a_is_letter : Addr} (T : Txt K mg c_Matrix) (D_is_letter : Def P w K mg base "is_letter" a_is_letter ps_is_letter 1 sp_is_letter) {f : Addr} (cdv : Value) (A : Around) (outer : List Env) (s : Shared) (H : Hp) (E : XK) (hr : Room 1 (A.deeper (PyProof.Rows.envOfC "formula_letters" (defScope s_formula_letters) s.heap.objs.size f cdv))) :
  RSs (cxOf (L2.CX P w) P w K mg base nm_formula_letters "formula_letters" (defScope s_formula_letters) f cdv A outer s H E) (defBody s_formula_letters) (m_formula_letters sp_is_letter) := by
  have nd := sc_formula_letters.nd
  exact (rss_cons (rs_setF (i := 1) nd rfl (by first | exact Or.inl rfl | exact Or.inr rfl) rf_dnew)
 (rss_cons (rs_for (passes_of rfl) rfl (ri_seq (re_v (pv 0))) (rg_n (pg_name (i := 2) nd rfl (Or.inl rfl))) (rss_one (rs_for (passes_of rfl) rfl (ri_seq (((rf_split (re_v (pv 2)) re_str)).re)) (rg_n (pg_name (i := 3) nd rfl (Or.inl rfl))) (rss_one (rs_if (rt_val (re_callD D_is_letter hr (ra_cons (re_v (pv 3)) ra_nil))) (rss_one (rs_dput (hu_of hr) (pv 1) (re_v (pv 3)) re_bl)) rss_nil)))))
 (rss_one (rs_ret (re_T1n call_tuple_of lift_tuple (by rfl) T.b_tuple PyProof.Rows.boot_tuple ((((rf_sorted rfl (by rfl) T.b_sorted (rp_v (pv 1)))).re)).rp)))))
/-! put -/
abbrev s_put : Stmt := top 17
abbrev nm_put : List Str := ["formula", "by", "word"]
abbrev ps_put : List Str := ["formula", "by"]
theorem sc_put : FnScope nm_put ps_put (defScope s_put) := ⟨rfl, rfl, rfl, by decide +kernel, rfl, by decide +kernel, by decide +kernel⟩
def m_put : MS :=
 (mRet (mJoin (mC (.str " ")) (mLc (mSeqI (mSplit (mVar 0) (mC (.str " ")))) (mgN 2) mYes (mDGet2 (mVar 1) (mVar 2) (mVar 2)) [2])))
theorem dv_put {c_Matrix : Addr} (T : Txt K mg c_Matrix)  {f : Addr} (cdv : Value) (A : Around) (outer : List Env) (s : Shared) (H : Hp) (E : XK) (hr : Room 0 (A.deeper (PyProof.Rows.envOfC "put" (defScope s_put) s.heap.objs.size f cdv))) :
  RSs (cxOf (L2.CX P w) P w K mg base nm_put "put" (defScope s_put) f cdv A outer s H E) (defBody s_put) (m_put) := by
  have nd := sc_put.nd
  exact (rss_one (rs_ret (re_join re_str ((((rf_lc (own := [("word", 2)]) (gt := gName 2) rfl nd (ri_seq (((rf_split (re_v (pv 0)) re_str)).re)) (blkOk_by (own := [("word", 2)]) (N := nm_put) (sc := defScope s_put) (by decide +kernel)) (fun _ _ _ _ _ => pg_name (i := 2) nd rfl (Or.inl rfl)) (gok_n (by decide)) (fun _ _ _ _ _ => rts_nil) (fun _ _ _ _ _ => (re_dget2 (hu_of hr) (re_v (pv 1)) (re_v (pv 2)) (re_v (pv 2)) ⟨rfl, rfl, rfl, rfl⟩)))).re)).rp)))
/-! need_formula -/
abbrev s_need_formula : Stmt := top 9
abbrev nm_need_formula : List Str := ["matrix", "text", "place"]
abbrev ps_need_formula : List Str := ["matrix", "text"]
theorem sc_need_formula : FnScope nm_need_formula ps_need_formula (defScope s_need_formula) := ⟨rfl, rfl, rfl, by decide +kernel, rfl, by decide +kernel, by decide +kernel⟩
def m_need_formula (x_BadFormula : Addr) (sp_formula_fault : SpD) : MS :=
 (mSeq (mSet 2 (mCall sp_formula_fault [] (mCons (mVar 0) (mCons (mVar 1) mNil))))
 (mIfS (mTest (mOp oNotN (mVar 2) (mC .non))) (mRaise x_BadFormula "place" (mVar 2)) mSkip))
theorem dv_need_formula {c_Matrix : Addr} {x_BadFormula : Addr} {sp_formula_fault : SpD} {a_formula_fault : Addr} (T : Txt K mg c_Matrix) (D_formula_fault : Def P w K mg base "formula_fault" a_formula_fault ps_formula_fault 4 sp_formula_fault) (X_BadFormula : XDef P w K mg base "BadFormula" x_BadFormula "place") {f : Addr} (cdv : Value) (A : Around) (outer : List Env) (s : Shared) (H : Hp) (E : XK) (hr : Room 4 (A.deeper (PyProof.Rows.envOfC "need_formula" (defScope s_need_formula) s.heap.objs.size f cdv))) :
  RSs (cxOf (L2.CX P w) P w K mg base nm_need_formula "need_formula" (defScope s_need_formula) f cdv A outer s H E) (defBody s_need_formula) (m_need_formula x_BadFormula sp_formula_fault) := by
  have nd := sc_need_formula.nd
  exact (rss_cons (rs_set (i := 2) nd rfl (by first | exact Or.inl rfl | exact Or.inr rfl) (re_callD D_formula_fault hr (ra_cons (re_v (pv 0)) (ra_cons (re_v (pv 1)) ra_nil))))
 (rss_one (rs_if (rt_notN (re_v (pv 2))) (rss_one (rs_raise X_BadFormula rfl hr rfl (re_v (pv 2)))) rss_nil)))
/-! Matrix.__init__ -/
abbrev s_Matrix_init : Stmt := inClass (top 33) 2
abbrev nm_Matrix_init : List Str := ["self", "size", "designated", "tables", "place", "name", "places", "entries", "table"]
abbrev ps_Matrix_init : List Str := ["self", "size", "designated", "tables"]
theorem sc_Matrix_init : FnScope nm_Matrix_init ps_Matrix_init (defScope s_Matrix_init) := ⟨rfl, rfl, rfl, by decide +kernel, rfl, by decide +kernel, by decide +kernel⟩
def m_Matrix_init (c_Matrix x_BadMatrix : Addr) (sp_matrix_fault sp_loose_table : SpD) : MS :=
 (mSeq (mSet 4 (mCall sp_matrix_fault [] (mCons (mVar 1) (mCons (mVar 2) (mCons (mVar 3) mNil)))))
 (mSeq (mIfS (mTest (mOp oNotN (mVar 4) (mC .non))) (mRaise x_BadMatrix "place" (mVar 4)) mSkip)
 (mSeq (mPutF c_Matrix "size" 0 (mVar 1))
 (mSeq (mPutF c_Matrix "designated" 0 (mVar 2))
 (mSeq (mPutF c_Matrix "tables" 0 (mVar 3))
 (mSeq (mPutF c_Matrix "names" 0 (mB1 oTuple (mLc (mSeqI (mVar 3)) (mgN 8) mYes (mOpQ oIx (mQN 8) (mC (.int 0))) [8])))
 (mSeq (mPutF c_Matrix "loose" 0 (mCall sp_loose_table [] (mCons (mVar 3) mNil)))
 (mFill c_Matrix 0 3 5 6 7 "_places" "_entries"))))))))
theorem dv_Matrix_init {c_Matrix x_BadMatrix : Addr} {sp_matrix_fault sp_loose_table : SpD} {a_matrix_fault a_loose_table : Addr} (T : Txt K mg c_Matrix) (D_matrix_fault : Def P w K mg base "matrix_fault" a_matrix_fault ps_matrix_fault 4 sp_matrix_fault) (D_loose_table : Def P w K mg base "loose_table" a_loose_table ps_loose_table 1 sp_loose_table) (X_BadMatrix : XDef P w K mg base "BadMatrix" x_BadMatrix "place") {f : Addr} (cdv : Value) (A : Around) (outer : List Env) (s : Shared) (H : Hp) (E : XK) (hr : Room 4 (A.deeper (PyProof.Rows.envOfC "Matrix.__init__" (defScope s_Matrix_init) s.heap.objs.size f cdv))) :
  RSs (cxOf (L2.CX P w) P w K mg base nm_Matrix_init "Matrix.__init__" (defScope s_Matrix_init) f cdv A outer s H E) (defBody s_Matrix_init) (m_Matrix_init c_Matrix x_BadMatrix sp_matrix_fault sp_loose_table) := by
  have nd := sc_Matrix_init.nd
  exact (rss_cons (rs_set (i := 4) nd rfl (by first | exact Or.inl rfl | exact Or.inr rfl) (re_callD D_matrix_fault hr (ra_cons (re_v (pv 1)) (ra_cons (re_v (pv 2)) (ra_cons (re_v (pv 3)) ra_nil)))))
 (rss_cons (rs_if (rt_notN (re_v (pv 4))) (rss_one (rs_raise X_BadMatrix rfl hr rfl (re_v (pv 4)))) rss_nil)
 (rss_cons (rs_putF T.cl_Matrix T.n_Matrix_size (pv 0) (re_v (pv 1)))
 (rss_cons (rs_putF T.cl_Matrix T.n_Matrix_designated (pv 0) (re_v (pv 2)))
 (rss_cons (rs_putF T.cl_Matrix T.n_Matrix_tables (pv 0) (re_v (pv 3)))
 (rss_cons (rs_putF T.cl_Matrix T.n_Matrix_names (pv 0) (re_T1n call_tuple_of lift_tuple (by rfl) T.b_tuple PyProof.Rows.boot_tuple ((((rf_lc (own := [("table", 8)]) (gt := gName 8) rfl nd (ri_seq (re_v (pv 3))) (blkOk_by (own := [("table", 8)]) (N := nm_Matrix_init) (sc := defScope s_Matrix_init) (by decide +kernel)) (fun _ _ _ _ _ => pg_name (i := 8) nd rfl (Or.inl rfl)) (gok_n (by decide)) (fun _ _ _ _ _ => rts_nil) (fun _ _ _ _ _ => (re_ix (rq_n (pv 8)) re_int (fun _ _ => rfl))))).re)).rp))
 (rss_cons (rs_putF T.cl_Matrix T.n_Matrix_loose (pv 0) (re_callD D_loose_table hr (ra_cons (re_v (pv 3)) ra_nil)))
 (rss_fill T.cl_Matrix T.n_Matrix__places T.n_Matrix__entries (by decide) (hu_of hr) (passes_of rfl) rfl (by decide) (by decide) (by decide) (by decide) (by decide) (by decide) (by decide) (by decide) (by decide) (by decide) (pv 0) (pv 0) (pv 0) (pv 0) (pv 3) (pg_tup rfl (pgs_cons (pg_name (i := 5) nd rfl (Or.inl rfl)) (pgs_cons (pg_name (i := 6) nd rfl (Or.inl rfl)) (pgs_cons (pg_name (i := 7) nd rfl (Or.inl rfl)) pgs_nil)))) (pv 5) (pv 5) (pv 6) (pv 7) rfl rfl rfl rfl rfl rfl (by intro _; rfl)))))))))
/-! all_parts -/
abbrev s_all_parts : Stmt := top 14
abbrev nm_all_parts : List Str := ["matrix", "formulas", "found", "formula", "stack", "word", "part", "_"]
abbrev ps_all_parts : List Str := ["matrix", "formulas"]
theorem sc_all_parts : FnScope nm_all_parts ps_all_parts (defScope s_all_parts) := ⟨rfl, rfl, rfl, by decide +kernel, rfl, by decide +kernel, by decide +kernel⟩
def m_all_parts (c_Matrix : Addr) (sp_is_letter sp_Matrix_places sp_formula_order : SpD) : MS :=
 (mSeq (mSetF 2 (mC (.dct [])))
 (mSeq (mFor (mSeqI (mVar 1)) (mgN 3) (mSeq (mSetF 4 (mLst mL0))
 (mFor (mRevI (mSplit (mVar 3) (mC (.str " ")))) (mgN 5) (mSeq (mSet 6 (mVar 5))
 (mSeq (mIfS (mNot (mTest (mCall sp_is_letter [] (mCons (mVar 5) mNil)))) (mFor (mRng1 (mMeth c_Matrix "places" sp_Matrix_places [] (mVar 0) (mCons (mVar 5) mNil))) (mgN 7) (mSet 6 (mOp oAddA (mOp oAddA (mVar 6) (mC (.str " "))) (mPop 4)))) mSkip)
 (mSeq (mApp 4 (mVar 6))
 (mDPut 2 (mC (.bl true)) (mVar 6))))))))
 (mRet (mB1 oTuple (mSortK sp_formula_order (mPk 2))))))
theorem dv_all_parts {c_Matrix : Addr} {sp_is_letter sp_Matrix_places sp_formula_order : SpD} {a_is_letter a_Matrix_places a_formula_order : Addr} (T : Txt K mg c_Matrix) (D_is_letter : Def P w K mg base "is_letter" a_is_letter ps_is_letter 1 sp_is_letter) (D_Matrix_places : MDef P w K mg base c_Matrix "places" a_Matrix_places ps_Matrix_places 3 sp_Matrix_places) (D_formula_order : Def P w K mg base "formula_order" a_formula_order ps_formula_order 1 sp_formula_order) {f : Addr} (cdv : Value) (A : Around) (outer : List Env) (s : Shared) (H : Hp) (E : XK) (hr : Room 5 (A.deeper (PyProof.Rows.envOfC "all_parts" (defScope s_all_parts) s.heap.objs.size f cdv))) :
  RSs (cxOf (L2.CX P w) P w K mg base nm_all_parts "all_parts" (defScope s_all_parts) f cdv A outer s H E) (defBody s_all_parts) (m_all_parts c_Matrix sp_is_letter sp_Matrix_places sp_formula_order) := by
  have nd := sc_all_parts.nd
  exact (rss_cons (rs_setF (i := 2) nd rfl (by first | exact Or.inl rfl | exact Or.inr rfl) rf_dnew)
 (rss_cons (rs_for (passes_of rfl) rfl (ri_seq (re_v (pv 1))) (rg_n (pg_name (i := 3) nd rfl (Or.inl rfl))) (rss_cons (rs_setF (i := 4) nd rfl (by first | exact Or.inl rfl | exact Or.inr rfl) (rf_lst rl_nil))
 (rss_one (rs_for (passes_of rfl) rfl (ri_rev (by rfl) T.b_reversed (((rf_split (re_v (pv 3)) re_str)).re)) (rg_n (pg_name (i := 5) nd rfl (Or.inl rfl))) (rss_cons (rs_set (i := 6) nd rfl (by first | exact Or.inl rfl | exact Or.inr rfl) (re_v (pv 5)))
 (rss_cons (rs_if (rt_not (rt_val (re_callD D_is_letter hr (ra_cons (re_v (pv 5)) ra_nil)))) (rss_one (rs_for (passes_of rfl) rfl (ri_rng1 (by rfl) T.b_range (re_methD D_Matrix_places hr (re_v (pv 0)) (ra_cons (re_v (pv 5)) ra_nil))) (rg_n (pg_name (i := 7) nd rfl (Or.inl rfl))) (rss_one (rs_set (i := 6) nd rfl (by first | exact Or.inl rfl | exact Or.inr rfl) (re_addA (re_addA (re_v (pv 6)) re_str) (re_pop (pv 4))))))) rss_nil)
 (rss_cons (rs_app (pv 4) (re_v (pv 6)))
 (rss_one (rs_dput (hu_of hr) (pv 2) (re_v (pv 6)) re_bl)))))))))
 (rss_one (rs_ret (re_T1n call_tuple_of lift_tuple (by rfl) T.b_tuple PyProof.Rows.boot_tuple ((((rf_sortedK D_formula_order hr T.b_sorted (rp_v (pv 2)))).re)).rp)))))
/-! formula_parts -/
abbrev s_formula_parts : Stmt := top 15
abbrev nm_formula_parts : List Str := ["matrix", "formula"]
abbrev ps_formula_parts : List Str := ["matrix", "formula"]
theorem sc_formula_parts : FnScope nm_formula_parts ps_formula_parts (defScope s_formula_parts) := ⟨rfl, rfl, rfl, by decide +kernel, rfl, by decide +kernel, by decide +kernel⟩
def m_formula_parts (sp_all_parts : SpD) : MS :=
 (mRet (mCall sp_all_parts [] (mCons (mVar 0) (mCons (mTup (mL1 (mVar 1) mL0)) mNil))))
theorem dv_formula_parts {c_Matrix : Addr} {sp_all_parts : SpD} {a_all_parts : Addr} (T : Txt K mg c_Matrix) (D_all_parts : Def P w K mg base "all_parts" a_all_parts ps_all_parts 6 sp_all_parts) {f : Addr} (cdv : Value) (A : Around) (outer : List Env) (s : Shared) (H : Hp) (E : XK) (hr : Room 6 (A.deeper (PyProof.Rows.envOfC "formula_parts" (defScope s_formula_parts) s.heap.objs.size f cdv))) :
  RSs (cxOf (L2.CX P w) P w K mg base nm_formula_parts "formula_parts" (defScope s_formula_parts) f cdv A outer s H E) (defBody s_formula_parts) (m_formula_parts sp_all_parts) := by
  have nd := sc_formula_parts.nd
  exact (rss_one (rs_ret (re_callD D_all_parts hr (ra_cons (re_v (pv 0)) (ra_cons (re_tup (rl_cons (re_v (pv 1)) rl_nil)) ra_nil)))))
/-! _law_pool -/
abbrev s_law_pool : Stmt := top 41
abbrev nm_law_pool : List Str := ["stream", "tables", "pool", "k", "letter", "table", "picked", "j", "at", "text", "parts", "record", "part"]
abbrev ps_law_pool : List Str := ["stream", "tables"]
theorem sc_law_pool : FnScope nm_law_pool ps_law_pool (defScope s_law_pool) := ⟨rfl, rfl, rfl, by decide +kernel, rfl, by decide +kernel, by decide +kernel⟩
def m_law_pool (sp_law_next sp_law_letter : SpD) : MS :=
 (mSeq (mSetF 2 (mLst mL0))
 (mSeq (mFor (mRng1 (mOp oAddA (mC (.int 1)) (mCall sp_law_next [] (mConsIO 0 (mCons (mC (.int 4)) mNil))))) (mgN 3) (mSeq (mSet 4 (mCall sp_law_letter [] (mConsIO 0 mNil)))
 (mApp 2 (mTup (mL1 (mVar 4) (mL1 (mTup mL0) (mL1 (mLst (mL1 (mVar 4) mL0)) mL0)))))))
 (mSeq (mFor (mRng1 (mCall sp_law_next [] (mConsIO 0 (mCons (mC (.int 11)) mNil)))) (mgN 3) (mSeq (mIfS (mTest (mOpQ oEqA (mQE (mB1 oLen (mPk 1))) (mC (.int 0)))) mBreak mSkip)
 (mSeq (mSet 5 (mOpQ oIx (mQN 1) (mCall sp_law_next [] (mConsIO 0 (mCons (mB1 oLen (mPk 1)) mNil)))))
 (mSeq (mSetF 6 (mLst mL0))
 (mSeq (mFor (mRng1 (mOpQ oIx (mQN 5) (mC (.int 1)))) (mgN 7) (mSeq (mSet 8 (mCall sp_law_next [] (mConsIO 0 (mCons (mB1 oLen (mPk 2)) mNil))))
 (mSeq (mIfS (mAnd (mTest (mOpQ oEqA (mQN 7) (mC (.int 0)))) (mTest (mOpQ oEqA (mQE (mCall sp_law_next [] (mConsIO 0 (mCons (mC (.int 2)) mNil)))) (mC (.int 0))))) (mSet 8 (mOp oSub (mB1 oLen (mPk 2)) (mC (.int 1)))) mSkip)
 (mApp 6 (mOpQ oIx (mQN 2) (mVar 8))))))
 (mSeq (mSet 9 (mJoin (mC (.str " ")) (mOpQ oCat (mQE (mLst (mL1 (mOpQ oIx (mQN 5) (mC (.int 0))) mL0))) (mLc (mSeqI (mVar 6)) (mgN 11) mYes (mOpQ oIx (mQN 11) (mC (.int 0))) [11]))))
 (mIfS (mTest (mOp oLeA (mB1 oLen (mSplit (mVar 9) (mC (.str " ")))) (mC (.int 24)))) (mSeq (mSetF 10 (mLst (mL1 (mVar 9) mL0)))
 (mSeq (mFor (mSeqI (mVar 6)) (mgN 11) (mSetF 10 (mOpQ oCat (mQN 10) (mLc (mSeqI (mOpQ oIx (mQN 11) (mC (.int 2)))) (mgN 12) (mTest (mOpQ (oInA true) (mQE (mVar 12)) (mPk 10))) (mVar 12) [12]))))
 (mApp 2 (mTup (mL1 (mVar 9) (mL1 (mB1 oTuple (mLc (mSeqI (mVar 6)) (mgN 11) mYes (mOpQ oIx (mQN 11) (mC (.int 0))) [11])) (mL1 (mVar 10) mL0))))))) mSkip)))))))
 (mRet (mVar 2)))))
theorem dv_law_pool {c_Matrix : Addr} {sp_law_next sp_law_letter : SpD} {a_law_next a_law_letter : Addr} (T : Txt K mg c_Matrix) (D_law_next : Def P w K mg base "_law_next" a_law_next ps_law_next 1 sp_law_next) (D_law_letter : Def P w K mg base "_law_letter" a_law_letter ps_law_letter 2 sp_law_letter) {f : Addr} (cdv : Value) (A : Around) (outer : List Env) (s : Shared) (H : Hp) (E : XK) (hr : Room 2 (A.deeper (PyProof.Rows.envOfC "_law_pool" (defScope s_law_pool) s.heap.objs.size f cdv))) :
  RSs (cxOf (L2.CX P w) P w K mg base nm_law_pool "_law_pool" (defScope s_law_pool) f cdv A outer s H E) (defBody s_law_pool) (m_law_pool sp_law_next sp_law_letter) := by
  have nd := sc_law_pool.nd
  exact (rss_cons (rs_setF (i := 2) nd rfl (by first | exact Or.inl rfl | exact Or.inr rfl) (rf_lst rl_nil))
 (rss_cons (rs_for (passes_of rfl) rfl (ri_rng1 (by rfl) T.b_range (re_addA re_int (re_callD D_law_next hr (ra_io (pv 0) (ra_cons re_int ra_nil))))) (rg_n (pg_name (i := 3) nd rfl (Or.inl rfl))) (rss_cons (rs_set (i := 4) nd rfl (by first | exact Or.inl rfl | exact Or.inr rfl) (re_callD D_law_letter hr (ra_io (pv 0) ra_nil)))
 (rss_one (rs_app (pv 2) (re_tup (rl_cons (re_v (pv 4)) (rl_cons (re_tup rl_nil) (rl_cons (((rf_lst (rl_cons (re_v (pv 4)) rl_nil))).re) rl_nil))))))))
 (rss_cons (rs_for (passes_of rfl) rfl (ri_rng1 (by rfl) T.b_range (re_callD D_law_next hr (ra_io (pv 0) (ra_cons re_int ra_nil)))) (rg_n (pg_name (i := 3) nd rfl (Or.inl rfl))) (rss_cons (rs_if (rt_eqA hr.units (rq_e (re_B1 call_lenA lift_len (by rfl) T.b_len PySem.boot_len (rp_v (pv 1)))) (re_int).rp) (rss_one rs_break) rss_nil)
 (rss_cons (rs_set (i := 5) nd rfl (by first | exact Or.inl rfl | exact Or.inr rfl) (re_ix (rq_n (pv 1)) (re_callD D_law_next hr (ra_io (pv 0) (ra_cons (re_B1 call_lenA lift_len (by rfl) T.b_len PySem.boot_len (rp_v (pv 1))) ra_nil))) (fun _ _ => rfl)))
 (rss_cons (rs_setF (i := 6) nd rfl (by first | exact Or.inl rfl | exact Or.inr rfl) (rf_lst rl_nil))
 (rss_cons (rs_for (passes_of rfl) rfl (ri_rng1 (by rfl) T.b_range (re_ix (rq_n (pv 5)) re_int (fun _ _ => rfl))) (rg_n (pg_name (i := 7) nd rfl (Or.inl rfl))) (rss_cons (rs_set (i := 8) nd rfl (by first | exact Or.inl rfl | exact Or.inr rfl) (re_callD D_law_next hr (ra_io (pv 0) (ra_cons (re_B1 call_lenA lift_len (by rfl) T.b_len PySem.boot_len (rp_v (pv 2))) ra_nil))))
 (rss_cons (rs_if ((rw_and (rt_eqA hr.units (rq_n (pv 7)) (re_int).rp) (rw_and1 (rt_eqA hr.units (rq_e (re_callD D_law_next hr (ra_io (pv 0) (ra_cons re_int ra_nil)))) (re_int).rp)))).rt (rss_one (rs_set (i := 8) nd rfl (by first | exact Or.inl rfl | exact Or.inr rfl) (re_sub (re_B1 call_lenA lift_len (by rfl) T.b_len PySem.boot_len (rp_v (pv 2))) re_int))) rss_nil)
 (rss_one (rs_app (pv 6) (re_ix (rq_n (pv 2)) (re_v (pv 8)) (fun _ _ => rfl)))))))
 (rss_cons (rs_set (i := 9) nd rfl (by first | exact Or.inl rfl | exact Or.inr rfl) (re_join re_str ((((rf_cat (rq_e (((rf_lst (rl_cons (re_ix (rq_n (pv 5)) re_int (fun _ _ => rfl)) rl_nil))).re)) ((((rf_lc (own := [("record", 11)]) (gt := gName 11) rfl nd (ri_seq (re_v (pv 6))) (blkOk_by (own := [("record", 11)]) (N := nm_law_pool) (sc := defScope s_law_pool) (by decide +kernel)) (fun _ _ _ _ _ => pg_name (i := 11) nd rfl (Or.inl rfl)) (gok_n (by decide)) (fun _ _ _ _ _ => rts_nil) (fun _ _ _ _ _ => (re_ix (rq_n (pv 11)) re_int (fun _ _ => rfl))))).re)).rp)).re)).rp))
 (rss_one (rs_if (rt_leA (re_B1 call_lenA lift_len (by rfl) T.b_len PySem.boot_len ((((rf_split (re_v (pv 9)) re_str)).re)).rp) re_int) (rss_cons (rs_setF (i := 10) nd rfl (by first | exact Or.inl rfl | exact Or.inr rfl) (rf_lst (rl_cons (re_v (pv 9)) rl_nil)))
 (rss_cons (rs_for (passes_of rfl) rfl (ri_seq (re_v (pv 6))) (rg_n (pg_name (i := 11) nd rfl (Or.inl rfl))) (rss_one (rs_setF (i := 10) nd rfl (by first | exact Or.inl rfl | exact Or.inr rfl) (rf_cat (rq_n (pv 10)) ((((rf_lc (own := [("part", 12)]) (gt := gName 12) rfl nd (ri_seq (re_ix (rq_n (pv 11)) re_int (fun _ _ => rfl))) (blkOk_by (own := [("part", 12)]) (N := nm_law_pool) (sc := defScope s_law_pool) (by decide +kernel)) (fun _ _ _ _ _ => pg_name (i := 12) nd rfl (Or.inl rfl)) (gok_n (by decide)) (fun _ _ _ _ _ => (rts_one (rt_notinA (hu_of hr) (re_v (pv 12)) (rp_v (pv 10))))) (fun _ _ _ _ _ => (re_v (pv 12))))).re)).rp))))
 (rss_one (rs_app (pv 2) (re_tup (rl_cons (re_v (pv 9)) (rl_cons (re_T1n call_tuple_of lift_tuple (by rfl) T.b_tuple PyProof.Rows.boot_tuple ((((rf_lc (own := [("record", 11)]) (gt := gName 11) rfl nd (ri_seq (re_v (pv 6))) (blkOk_by (own := [("record", 11)]) (N := nm_law_pool) (sc := defScope s_law_pool) (by decide +kernel)) (fun _ _ _ _ _ => pg_name (i := 11) nd rfl (Or.inl rfl)) (gok_n (by decide)) (fun _ _ _ _ _ => rts_nil) (fun _ _ _ _ _ => (re_ix (rq_n (pv 11)) re_int (fun _ _ => rfl))))).re)).rp) (rl_cons (re_v (pv 10)) rl_nil)))))))) rss_nil))))))))
 (rss_one (rs_ret (re_v (pv 2)))))))
/-! _law_spoilt -/
abbrev s_law_spoilt : Stmt := top 45
abbrev nm_law_spoilt : List Str := ["stream", "tables", "text", "words", "at", "menu", "word", "way", "table"]
abbrev ps_law_spoilt : List Str := ["stream", "tables", "text"]
theorem sc_law_spoilt : FnScope nm_law_spoilt ps_law_spoilt (defScope s_law_spoilt) := ⟨rfl, rfl, rfl, by decide +kernel, rfl, by decide +kernel, by decide +kernel⟩
def m_law_spoilt (sp_law_next sp_law_name sp_law_letter : SpD) : MS :=
 (mSeq (mSetF 3 (mSplit (mVar 2) (mC (.str " "))))
 (mSeq (mSet 4 (mCall sp_law_next [] (mConsIO 0 (mCons (mOp oAddA (mB1 oLen (mPk 3)) (mC (.int 1))) mNil))))
 (mSeq (mSetF 5 (mOpQ oCat (mQE (mLst (mL1 (mCall sp_law_letter [] (mConsIO 0 mNil)) (mL1 (mC (.str "")) (mL1 (mC (.str "Q")) (mL1 (mC (.str "p1")) (mL1 (mC (.str "Zz")) (mL1 (mCall sp_law_name [] (mConsIO 0 mNil)) mL0)))))))) (mLc (mSeqI (mVar 1)) (mgN 8) mYes (mOpQ oIx (mQN 8) (mC (.int 0))) [8])))
 (mSeq (mSet 6 (mOpQ oIx (mQN 5) (mCall sp_law_next [] (mConsIO 0 (mCons (mB1 oLen (mPk 5)) mNil)))))
 (mSeq (mSet 7 (mCall sp_law_next [] (mConsIO 0 (mCons (mC (.int 4)) mNil))))
 (mSeq (mIfS (mTest (mOpQ oEqA (mQN 7) (mC (.int 0)))) (mSetF 3 (mOpQ oCat (mQE (mSlL (mQN 3) mO0 (mO1 (mVar 4)))) (mSlL (mQN 3) (mO1 (mOp oAddA (mVar 4) (mC (.int 1)))) mO0))) mSkip)
 (mSeq (mIfS (mOr (mTest (mOpQ oEqA (mQN 7) (mC (.int 1)))) (mTest (mOpQ oEqA (mQN 7) (mC (.int 2))))) (mSetF 3 (mOpQ oCat (mQE (mOpQ oCat (mQE (mSlL (mQN 3) mO0 (mO1 (mVar 4)))) (mLst (mL1 (mVar 6) mL0)))) (mSlL (mQN 3) (mO1 (mVar 4)) mO0))) mSkip)
 (mSeq (mIfS (mTest (mOpQ oEqA (mQN 7) (mC (.int 3)))) (mSetF 3 (mOpQ oCat (mQE (mOpQ oCat (mQE (mSlL (mQN 3) mO0 (mO1 (mVar 4)))) (mLst (mL1 (mVar 6) mL0)))) (mSlL (mQN 3) (mO1 (mOp oAddA (mVar 4) (mC (.int 1)))) mO0))) mSkip)
 (mRet (mJoin (mC (.str " ")) (mPk 3)))))))))))
theorem dv_law_spoilt {c_Matrix : Addr} {sp_law_next sp_law_name sp_law_letter : SpD} {a_law_next a_law_name a_law_letter : Addr} (T : Txt K mg c_Matrix) (D_law_next : Def P w K mg base "_law_next" a_law_next ps_law_next 1 sp_law_next) (D_law_name : Def P w K mg base "_law_name" a_law_name ps_law_name 3 sp_law_name) (D_law_letter : Def P w K mg base "_law_letter" a_law_letter ps_law_letter 2 sp_law_letter) {f : Addr} (cdv : Value) (A : Around) (outer : List Env) (s : Shared) (H : Hp) (E : XK) (hr : Room 3 (A.deeper (PyProof.Rows.envOfC "_law_spoilt" (defScope s_law_spoilt) s.heap.objs.size f cdv))) :
  RSs (cxOf (L2.CX P w) P w K mg base nm_law_spoilt "_law_spoilt" (defScope s_law_spoilt) f cdv A outer s H E) (defBody s_law_spoilt) (m_law_spoilt sp_law_next sp_law_name sp_law_letter) := by
  have nd := sc_law_spoilt.nd
  exact (rss_cons (rs_setF (i := 3) nd rfl (by first | exact Or.inl rfl | exact Or.inr rfl) (rf_split (re_v (pv 2)) re_str))
 (rss_cons (rs_set (i := 4) nd rfl (by first | exact Or.inl rfl | exact Or.inr rfl) (re_callD D_law_next hr (ra_io (pv 0) (ra_cons (re_addA (re_B1 call_lenA lift_len (by rfl) T.b_len PySem.boot_len (rp_v (pv 3))) re_int) ra_nil))))
 (rss_cons (rs_setF (i := 5) nd rfl (by first | exact Or.inl rfl | exact Or.inr rfl) (rf_cat (rq_e (((rf_lst (rl_cons (re_callD D_law_letter hr (ra_io (pv 0) ra_nil)) (rl_cons re_str (rl_cons re_str (rl_cons re_str (rl_cons re_str (rl_cons (re_callD D_law_name hr (ra_io (pv 0) ra_nil)) rl_nil)))))))).re)) ((((rf_lc (own := [("table", 8)]) (gt := gName 8) rfl nd (ri_seq (re_v (pv 1))) (blkOk_by (own := [("table", 8)]) (N := nm_law_spoilt) (sc := defScope s_law_spoilt) (by decide +kernel)) (fun _ _ _ _ _ => pg_name (i := 8) nd rfl (Or.inl rfl)) (gok_n (by decide)) (fun _ _ _ _ _ => rts_nil) (fun _ _ _ _ _ => (re_ix (rq_n (pv 8)) re_int (fun _ _ => rfl))))).re)).rp))
 (rss_cons (rs_set (i := 6) nd rfl (by first | exact Or.inl rfl | exact Or.inr rfl) (re_ix (rq_n (pv 5)) (re_callD D_law_next hr (ra_io (pv 0) (ra_cons (re_B1 call_lenA lift_len (by rfl) T.b_len PySem.boot_len (rp_v (pv 5))) ra_nil))) (fun _ _ => rfl)))
 (rss_cons (rs_set (i := 7) nd rfl (by first | exact Or.inl rfl | exact Or.inr rfl) (re_callD D_law_next hr (ra_io (pv 0) (ra_cons re_int ra_nil))))
 (rss_cons (rs_if (rt_eqA hr.units (rq_n (pv 7)) (re_int).rp) (rss_one (rs_setF (i := 3) nd rfl (by first | exact Or.inl rfl | exact Or.inr rfl) (rf_cat (rq_e (((rf_slL (rq_n (pv 3)) ro_none (ro_some (re_v (pv 4))))).re)) ((((rf_slL (rq_n (pv 3)) (ro_some (re_addA (re_v (pv 4)) re_int)) ro_none)).re)).rp))) rss_nil)
 (rss_cons (rs_if ((rw_or (rt_eqA hr.units (rq_n (pv 7)) (re_int).rp) (rw_or1 (rt_eqA hr.units (rq_n (pv 7)) (re_int).rp)))).rt (rss_one (rs_setF (i := 3) nd rfl (by first | exact Or.inl rfl | exact Or.inr rfl) (rf_cat (rq_e (((rf_cat (rq_e (((rf_slL (rq_n (pv 3)) ro_none (ro_some (re_v (pv 4))))).re)) ((((rf_lst (rl_cons (re_v (pv 6)) rl_nil))).re)).rp)).re)) ((((rf_slL (rq_n (pv 3)) (ro_some (re_v (pv 4))) ro_none)).re)).rp))) rss_nil)
 (rss_cons (rs_if (rt_eqA hr.units (rq_n (pv 7)) (re_int).rp) (rss_one (rs_setF (i := 3) nd rfl (by first | exact Or.inl rfl | exact Or.inr rfl) (rf_cat (rq_e (((rf_cat (rq_e (((rf_slL (rq_n (pv 3)) ro_none (ro_some (re_v (pv 4))))).re)) ((((rf_lst (rl_cons (re_v (pv 6)) rl_nil))).re)).rp)).re)) ((((rf_slL (rq_n (pv 3)) (ro_some (re_addA (re_v (pv 4)) re_int)) ro_none)).re)).rp))) rss_nil)
 (rss_one (rs_ret (re_join re_str (rp_v (pv 3)))))))))))))
/-! _law_needed -/
abbrev s_law_needed : Stmt := top 48
abbrev nm_law_needed : List Str := ["matrix", "text", "e"]
abbrev ps_law_needed : List Str := ["matrix", "text"]
theorem sc_law_needed : FnScope nm_law_needed ps_law_needed (defScope s_law_needed) := ⟨rfl, rfl, rfl, by decide +kernel, rfl, by decide +kernel, by decide +kernel⟩
def m_law_needed (x_BadFormula : Addr) (sp_need_formula : SpD) : MS :=
 (mSeq (mTryX 2 x_BadFormula (mDrop (mCall sp_need_formula [] (mCons (mVar 0) (mCons (mVar 1) mNil)))) (fun a dd Ca => (mRet (mTup (mL1 (mAndV (mXisB a dd Ca x_BadFormula true (mVar 2)) (mXisB a dd Ca x_BadFormula true (mVar 2))) (mL1 (mXfld a dd Ca x_BadFormula "place" (mVar 2)) mL0))))))
 (mRet (mTup (mL1 (mC (.bl true)) (mL1 (mC .non) mL0)))))
theorem dv_law_needed {c_Matrix : Addr} {x_BadFormula x_AnytruthsError : Addr} {sp_need_formula : SpD} {a_need_formula : Addr} (T : Txt K mg c_Matrix) (D_need_formula : Def P w K mg base "need_formula" a_need_formula ps_need_formula 5 sp_need_formula) (XC_BadFormula : XC K mg "BadFormula" x_BadFormula "place") (mq_AnytruthsError : mg "AnytruthsError" = some (.ref x_AnytruthsError)) (kq_BadFormula_AnytruthsError : PySem.W.kitOne K (.ref x_BadFormula) (.ref x_AnytruthsError) = some true) (kq_BadFormula_ValueError : PySem.W.kitOne K (.ref x_BadFormula) (.type "ValueError") = some true) {f : Addr} (cdv : Value) (A : Around) (outer : List Env) (s : Shared) (H : Hp) (E : XK) (hr : Room 5 (A.deeper (PyProof.Rows.envOfC "_law_needed" (defScope s_law_needed) s.heap.objs.size f cdv))) :
  RSs (cxOf (L2.CX P w) P w K mg base nm_law_needed "_law_needed" (defScope s_law_needed) f cdv A outer s H E) (defBody s_law_needed) (m_law_needed x_BadFormula sp_need_formula) := by
  have nd := sc_law_needed.nd
  exact (rss_cons (rs_tryX (i := 2) XC_BadFormula rfl rfl nd rfl (by rfl) (by rfl) (by decide) (fun pn xe po => (rss_one (rs_expr (re_callD D_need_formula hr (ra_cons (re_v (pv 0)) (ra_cons (re_v (pv 1)) ra_nil)))))) (fun a oe Ca dd pn hz hf => (rss_one (rs_ret (re_tup (rl_cons (re_and (re_xisX XC_BadFormula hz hf T.b_isinstance (re_v (pv 2)) (pe_glob (v := .ref x_AnytruthsError) (by rfl) mq_AnytruthsError rfl) (fun _ h => h) kq_BadFormula_AnytruthsError) (re_one (re_xisX XC_BadFormula hz hf T.b_isinstance (re_v (pv 2)) (pe_bltn (v := .ty "ValueError") (by rfl) T.b_ValueError (by decide +kernel) rfl) (fun _ h => h) kq_BadFormula_ValueError))) (rl_cons (re_xfldX XC_BadFormula hz hf (re_v (pv 2))) rl_nil)))))))
 (rss_one (rs_ret (re_tup (rl_cons re_bl (rl_cons re_non rl_nil))))))
/-! _law_images -/
abbrev s_law_images : Stmt := top 49
abbrev nm_law_images : List Str := ["pool", "by", "images", "record", "head", "text"]
abbrev ps_law_images : List Str := ["pool", "by"]
theorem sc_law_images : FnScope nm_law_images ps_law_images (defScope s_law_images) := ⟨rfl, rfl, rfl, by decide +kernel, rfl, by decide +kernel, by decide +kernel⟩
def m_law_images (sp_law_is_letter : SpD) : MS :=
 (mSeq (mSetF 2 (mC (.dct [])))
 (mSeq (mFor (mSeqI (mVar 0)) (mgN 3) (mIfS (mTest (mCall sp_law_is_letter [] (mCons (mOpQ oIx (mQN 3) (mC (.int 0))) mNil))) (mDPut 2 (mDGet2 (mVar 1) (mOpQ oIx (mQN 3) (mC (.int 0))) (mOpQ oIx (mQN 3) (mC (.int 0)))) (mOpQ oIx (mQN 3) (mC (.int 0)))) (mSeq (mSet 4 (mOpQ oIx (mQE (mSplit (mOpQ oIx (mQN 3) (mC (.int 0))) (mC (.str " ")))) (mC (.int 0))))
 (mDPut 2 (mJoin (mC (.str " ")) (mOpQ oCat (mQE (mLst (mL1 (mVar 4) mL0))) (mLc (mSeqI (mOpQ oIx (mQN 3) (mC (.int 1)))) (mgN 5) mYes (mOpQ oDGet (mQN 2) (mVar 5)) [5]))) (mOpQ oIx (mQN 3) (mC (.int 0)))))))
 (mRet (mVar 2))))
theorem dv_law_images {c_Matrix : Addr} {sp_law_is_letter : SpD} {a_law_is_letter : Addr} (T : Txt K mg c_Matrix) (D_law_is_letter : Def P w K mg base "_law_is_letter" a_law_is_letter ps_law_is_letter 1 sp_law_is_letter) {f : Addr} (cdv : Value) (A : Around) (outer : List Env) (s : Shared) (H : Hp) (E : XK) (hr : Room 1 (A.deeper (PyProof.Rows.envOfC "_law_images" (defScope s_law_images) s.heap.objs.size f cdv))) :
  RSs (cxOf (L2.CX P w) P w K mg base nm_law_images "_law_images" (defScope s_law_images) f cdv A outer s H E) (defBody s_law_images) (m_law_images sp_law_is_letter) := by
  have nd := sc_law_images.nd
  exact (rss_cons (rs_setF (i := 2) nd rfl (by first | exact Or.inl rfl | exact Or.inr rfl) rf_dnew)
 (rss_cons (rs_for (passes_of rfl) rfl (ri_seq (re_v (pv 0))) (rg_n (pg_name (i := 3) nd rfl (Or.inl rfl))) (rss_one (rs_if (rt_val (re_callD D_law_is_letter hr (ra_cons (re_ix (rq_n (pv 3)) re_int (fun _ _ => rfl)) ra_nil))) (rss_one (rs_dput (hu_of hr) (pv 2) (re_ix (rq_n (pv 3)) re_int (fun _ _ => rfl)) (re_dget2 (hu_of hr) (re_v (pv 1)) (re_ix (rq_n (pv 3)) re_int (fun _ _ => rfl)) (re_ix (rq_n (pv 3)) re_int (fun _ _ => rfl)) ⟨rfl, rfl, rfl, rfl⟩))) (rss_cons (rs_set (i := 4) nd rfl (by first | exact Or.inl rfl | exact Or.inr rfl) (re_ix (rq_e (((rf_split (re_ix (rq_n (pv 3)) re_int (fun _ _ => rfl)) re_str)).re)) re_int (fun _ _ => rfl)))
 (rss_one (rs_dput (hu_of hr) (pv 2) (re_ix (rq_n (pv 3)) re_int (fun _ _ => rfl)) (re_join re_str ((((rf_cat (rq_e (((rf_lst (rl_cons (re_v (pv 4)) rl_nil))).re)) ((((rf_lc (own := [("text", 5)]) (gt := gName 5) rfl nd (ri_seq (re_ix (rq_n (pv 3)) re_int (fun _ _ => rfl))) (blkOk_by (own := [("text", 5)]) (N := nm_law_images) (sc := defScope s_law_images) (by decide +kernel)) (fun _ _ _ _ _ => pg_name (i := 5) nd rfl (Or.inl rfl)) (gok_n (by decide)) (fun _ _ _ _ _ => rts_nil) (fun _ _ _ _ _ => (re_dget (hu_of hr) (rq_n (pv 2)) (re_v (pv 5)) (fun _ _ => rfl))))).re)).rp)).re)).rp)))))))
 (rss_one (rs_ret (re_v (pv 2))))))
/-! _law_right_formula -/
abbrev s_law_right_formula : Stmt := top 50
abbrev nm_law_right_formula : List Str := ["matrix", "pool", "record", "text", "due", "several", "parts", "other", "letters", "words", "order", "part"]
abbrev ps_law_right_formula : List Str := ["matrix", "pool"]
theorem sc_law_right_formula : FnScope nm_law_right_formula ps_law_right_formula (defScope s_law_right_formula) := ⟨rfl, rfl, rfl, by decide +kernel, rfl, by decide +kernel, by decide +kernel⟩
def m_law_right_formula (sp_law_order sp_formula_fault sp_is_formula sp_law_same_texts sp_formula_arguments sp_formula_parts sp_all_parts sp_law_is_letter sp_formula_letters sp_formula_order sp_first_word : SpD) : MS :=
 (mSeq (mSet 2 (mOpQ oIx (mQN 1) (mOp oSub (mB1 oLen (mPk 1)) (mC (.int 1)))))
 (mSeq (mSet 3 (mOpQ oIx (mQN 2) (mC (.int 0))))
 (mSeq (mSetF 4 (mSortK sp_law_order (mOpQ oIx (mQN 2) (mC (.int 2)))))
 (mSeq (mIfS (mOr (mTest (mOp oNotN (mCall sp_formula_fault [] (mCons (mVar 0) (mCons (mVar 3) mNil))) (mC .non))) (mTest (mOp oNotBl (mCall sp_is_formula [] (mCons (mVar 0) (mCons (mVar 3) mNil))) (mC (.bl true))))) (mRet (mC (.bl false))) mSkip)
 (mSeq (mIfS (mNot (mTest (mCall sp_law_same_texts [] (mCons (mCall sp_formula_arguments [] (mCons (mVar 0) (mCons (mVar 3) mNil))) (mCons (mB1 oList (mOpQ oIx (mQN 2) (mC (.int 1)))) mNil))))) (mRet (mC (.bl false))) mSkip)
 (mSeq (mIfS (mNot (mTest (mCall sp_law_same_texts [] (mCons (mCall sp_formula_parts [] (mCons (mVar 0) (mCons (mVar 3) mNil))) (mCons (mVar 4) mNil))))) (mRet (mC (.bl false))) mSkip)
 (mSeq (mSetF 5 (mLst (mL1 (mOpQ oIx (mQE (mOpQ oIx (mQN 1) (mC (.int 0)))) (mC (.int 0))) (mL1 (mVar 3) (mL1 (mOpQ oIx (mQE (mOpQ oIx (mQN 1) (mOp oDiv (mB1 oLen (mPk 1)) (mC (.int 2))))) (mC (.int 0))) (mL1 (mVar 3) mL0))))))
 (mSeq (mSet 6 (mVar 4))
 (mSeq (mFor (mSeqI (mLst (mL1 (mOpQ oIx (mQN 1) (mC (.int 0))) (mL1 (mOpQ oIx (mQN 1) (mOp oDiv (mB1 oLen (mPk 1)) (mC (.int 2)))) mL0)))) (mgN 7) (mSetF 6 (mOpQ oCat (mQN 6) (mLc (mSeqI (mOpQ oIx (mQN 7) (mC (.int 2)))) (mgN 11) (mTest (mOpQ (oInA true) (mQE (mVar 11)) (mPk 6))) (mVar 11) [11]))))
 (mSeq (mIfS (mNot (mTest (mCall sp_law_same_texts [] (mCons (mCall sp_all_parts [] (mCons (mVar 0) (mCons (mB1 oTuple (mPk 5)) mNil))) (mCons (mSortK sp_law_order (mPk 6)) mNil))))) (mRet (mC (.bl false))) mSkip)
 (mSeq (mIfS (mNot (mTest (mCall sp_law_same_texts [] (mCons (mCall sp_all_parts [] (mCons (mVar 0) (mCons (mTup mL0) mNil))) (mCons (mLst mL0) mNil))))) (mRet (mC (.bl false))) mSkip)
 (mSeq (mSetF 8 (mB1 oSorted (mLc (mSeqI (mVar 6)) (mgN 11) (mTest (mCall sp_law_is_letter [] (mCons (mVar 11) mNil))) (mVar 11) [11])))
 (mSeq (mIfS (mNot (mTest (mCall sp_law_same_texts [] (mCons (mCall sp_formula_letters [] (mCons (mB1 oTuple (mPk 5)) mNil)) (mCons (mVar 8) mNil))))) (mRet (mC (.bl false))) mSkip)
 (mSeq (mSetF 9 (mSplit (mVar 3) (mC (.str " "))))
 (mSeq (mSet 10 (mCall sp_formula_order [] (mCons (mVar 3) mNil)))
 (mSeq (mIfS (mOr (mNot (mTest (mIsi "tuple" (mVar 10)))) (mTest (mOpQ oNeA (mQN 10) (mTup (mL1 (mOp oSub (mB1 oLen (mPk 9)) (mC (.int 1))) (mL1 (mVar 3) mL0)))))) (mRet (mC (.bl false))) mSkip)
 (mRet (mOpQ oEqA (mQE (mCall sp_first_word [] (mCons (mVar 3) mNil))) (mOpQ oIx (mQN 9) (mC (.int 0)))))))))))))))))))))
theorem dv_law_right_formula {c_Matrix : Addr} {sp_law_order sp_formula_fault sp_is_formula sp_law_same_texts sp_formula_arguments sp_formula_parts sp_all_parts sp_law_is_letter sp_formula_letters sp_formula_order sp_first_word : SpD} {a_law_order a_formula_fault a_is_formula a_law_same_texts a_formula_arguments a_formula_parts a_all_parts a_law_is_letter a_formula_letters a_formula_order a_first_word : Addr} (T : Txt K mg c_Matrix) (D_law_order : Def P w K mg base "_law_order" a_law_order ps_law_order 1 sp_law_order) (D_formula_fault : Def P w K mg base "formula_fault" a_formula_fault ps_formula_fault 4 sp_formula_fault) (D_is_formula : Def P w K mg base "is_formula" a_is_formula ps_is_formula 5 sp_is_formula) (D_law_same_texts : Def P w K mg base "_law_same_texts" a_law_same_texts ps_law_same_texts 1 sp_law_same_texts) (D_formula_arguments : Def P w K mg base "formula_arguments" a_formula_arguments ps_formula_arguments 4 sp_formula_arguments) (D_formula_parts : Def P w K mg base "formula_parts" a_formula_parts ps_formula_parts 7 sp_formula_parts) (D_all_parts : Def P w K mg base "all_parts" a_all_parts ps_all_parts 6 sp_all_parts) (D_law_is_letter : Def P w K mg base "_law_is_letter" a_law_is_letter ps_law_is_letter 1 sp_law_is_letter) (D_formula_letters : Def P w K mg base "formula_letters" a_formula_letters ps_formula_letters 2 sp_formula_letters) (D_formula_order : Def P w K mg base "formula_order" a_formula_order ps_formula_order 1 sp_formula_order) (D_first_word : Def P w K mg base "first_word" a_first_word ps_first_word 1 sp_first_word) {f : Addr} (cdv : Value) (A : Around) (outer : List Env) (s : Shared) (H : Hp) (E : XK) (hr : Room 9 (A.deeper (PyProof.Rows.envOfC "_law_right_formula" (defScope s_law_right_formula) s.heap.objs.size f cdv))) :
  RSs (cxOf (L2.CX P w) P w K mg base nm_law_right_formula "_law_right_formula" (defScope s_law_right_formula) f cdv A outer s H E) (defBody s_law_right_formula) (m_law_right_formula sp_law_order sp_formula_fault sp_is_formula sp_law_same_texts sp_formula_arguments sp_formula_parts sp_all_parts sp_law_is_letter sp_formula_letters sp_formula_order sp_first_word) := by
  have nd := sc_law_right_formula.nd
  exact (rss_cons (rs_set (i := 2) nd rfl (by first | exact Or.inl rfl | exact Or.inr rfl) (re_ix (rq_n (pv 1)) (re_sub (re_B1 call_lenA lift_len (by rfl) T.b_len PySem.boot_len (rp_v (pv 1))) re_int) (fun _ _ => rfl)))
 (rss_cons (rs_set (i := 3) nd rfl (by first | exact Or.inl rfl | exact Or.inr rfl) (re_ix (rq_n (pv 2)) re_int (fun _ _ => rfl)))
 (rss_cons (rs_setF (i := 4) nd rfl (by first | exact Or.inl rfl | exact Or.inr rfl) (rf_sortedK D_law_order hr T.b_sorted ((re_ix (rq_n (pv 2)) re_int (fun _ _ => rfl))).rp))
 (rss_cons (rs_if ((rw_or (rt_notN (re_callD D_formula_fault hr (ra_cons (re_v (pv 0)) (ra_cons (re_v (pv 3)) ra_nil)))) (rw_or1 (rt_notBl (re_callD D_is_formula hr (ra_cons (re_v (pv 0)) (ra_cons (re_v (pv 3)) ra_nil))))))).rt (rss_one (rs_ret re_bl)) rss_nil)
 (rss_cons (rs_if (rt_not (rt_val (re_callD D_law_same_texts hr (ra_cons (re_callD D_formula_arguments hr (ra_cons (re_v (pv 0)) (ra_cons (re_v (pv 3)) ra_nil))) (ra_cons (((rf_T1 call_list_of lift_list (by rfl) T.b_list (by decide +kernel) ((re_ix (rq_n (pv 2)) re_int (fun _ _ => rfl))).rp)).re) ra_nil))))) (rss_one (rs_ret re_bl)) rss_nil)
 (rss_cons (rs_if (rt_not (rt_val (re_callD D_law_same_texts hr (ra_cons (re_callD D_formula_parts hr (ra_cons (re_v (pv 0)) (ra_cons (re_v (pv 3)) ra_nil))) (ra_cons (re_v (pv 4)) ra_nil))))) (rss_one (rs_ret re_bl)) rss_nil)
 (rss_cons (rs_setF (i := 5) nd rfl (by first | exact Or.inl rfl | exact Or.inr rfl) (rf_lst (rl_cons (re_ix (rq_e (re_ix (rq_n (pv 1)) re_int (fun _ _ => rfl))) re_int (fun _ _ => rfl)) (rl_cons (re_v (pv 3)) (rl_cons (re_ix (rq_e (re_ix (rq_n (pv 1)) (re_div (re_B1 call_lenA lift_len (by rfl) T.b_len PySem.boot_len (rp_v (pv 1))) re_int) (fun _ _ => rfl))) re_int (fun _ _ => rfl)) (rl_cons (re_v (pv 3)) rl_nil))))))
 (rss_cons (rs_set (i := 6) nd rfl (by first | exact Or.inl rfl | exact Or.inr rfl) (re_v (pv 4)))
 (rss_cons (rs_for (passes_of rfl) rfl (ri_seq (((rf_lst (rl_cons (re_ix (rq_n (pv 1)) re_int (fun _ _ => rfl)) (rl_cons (re_ix (rq_n (pv 1)) (re_div (re_B1 call_lenA lift_len (by rfl) T.b_len PySem.boot_len (rp_v (pv 1))) re_int) (fun _ _ => rfl)) rl_nil)))).re)) (rg_n (pg_name (i := 7) nd rfl (Or.inl rfl))) (rss_one (rs_setF (i := 6) nd rfl (by first | exact Or.inl rfl | exact Or.inr rfl) (rf_cat (rq_n (pv 6)) ((((rf_lc (own := [("part", 11)]) (gt := gName 11) rfl nd (ri_seq (re_ix (rq_n (pv 7)) re_int (fun _ _ => rfl))) (blkOk_by (own := [("part", 11)]) (N := nm_law_right_formula) (sc := defScope s_law_right_formula) (by decide +kernel)) (fun _ _ _ _ _ => pg_name (i := 11) nd rfl (Or.inl rfl)) (gok_n (by decide)) (fun _ _ _ _ _ => (rts_one (rt_notinA (hu_of hr) (re_v (pv 11)) (rp_v (pv 6))))) (fun _ _ _ _ _ => (re_v (pv 11))))).re)).rp))))
 (rss_cons (rs_if (rt_not (rt_val (re_callD D_law_same_texts hr (ra_cons (re_callD D_all_parts hr (ra_cons (re_v (pv 0)) (ra_cons (re_T1n call_tuple_of lift_tuple (by rfl) T.b_tuple PyProof.Rows.boot_tuple (rp_v (pv 5))) ra_nil))) (ra_cons (((rf_sortedK D_law_order hr T.b_sorted (rp_v (pv 6)))).re) ra_nil))))) (rss_one (rs_ret re_bl)) rss_nil)
 (rss_cons (rs_if (rt_not (rt_val (re_callD D_law_same_texts hr (ra_cons (re_callD D_all_parts hr (ra_cons (re_v (pv 0)) (ra_cons (re_tup rl_nil) ra_nil))) (ra_cons (((rf_lst rl_nil)).re) ra_nil))))) (rss_one (rs_ret re_bl)) rss_nil)
 (rss_cons (rs_setF (i := 8) nd rfl (by first | exact Or.inl rfl | exact Or.inr rfl) (rf_sorted rfl (by rfl) T.b_sorted ((((rf_lc (own := [("part", 11)]) (gt := gName 11) rfl nd (ri_seq (re_v (pv 6))) (blkOk_by (own := [("part", 11)]) (N := nm_law_right_formula) (sc := defScope s_law_right_formula) (by decide +kernel)) (fun _ _ _ _ _ => pg_name (i := 11) nd rfl (Or.inl rfl)) (gok_n (by decide)) (fun _ _ _ _ _ => (rts_one (rt_val (re_callD D_law_is_letter hr (ra_cons (re_v (pv 11)) ra_nil))))) (fun _ _ _ _ _ => (re_v (pv 11))))).re)).rp))
 (rss_cons (rs_if (rt_not (rt_val (re_callD D_law_same_texts hr (ra_cons (re_callD D_formula_letters hr (ra_cons (re_T1n call_tuple_of lift_tuple (by rfl) T.b_tuple PyProof.Rows.boot_tuple (rp_v (pv 5))) ra_nil)) (ra_cons (re_v (pv 8)) ra_nil))))) (rss_one (rs_ret re_bl)) rss_nil)
 (rss_cons (rs_setF (i := 9) nd rfl (by first | exact Or.inl rfl | exact Or.inr rfl) (rf_split (re_v (pv 3)) re_str))
 (rss_cons (rs_set (i := 10) nd rfl (by first | exact Or.inl rfl | exact Or.inr rfl) (re_callD D_formula_order hr (ra_cons (re_v (pv 3)) ra_nil)))
 (rss_cons (rs_if ((rw_or (rt_not (rt_val (re_isi (by rfl) T.b_isinstance (re_v (pv 10)) (pe_bltn (v := .ty "tuple") (by rfl) T.b_tuple PyProof.Rows.boot_tuple rfl)))) (rw_or1 (rt_neA hr.units (rq_n (pv 10)) ((re_tup (rl_cons (re_sub (re_B1 call_lenA lift_len (by rfl) T.b_len PySem.boot_len (rp_v (pv 9))) re_int) (rl_cons (re_v (pv 3)) rl_nil)))).rp)))).rt (rss_one (rs_ret re_bl)) rss_nil)
 (rss_one (rs_ret (re_eqA hr.units (rq_e (re_callD D_first_word hr (ra_cons (re_v (pv 3)) ra_nil))) ((re_ix (rq_n (pv 9)) re_int (fun _ _ => rfl))).rp)))))))))))))))))))
/-! law -/
abbrev s_law : Stmt := top 51
abbrev nm_law : List Str := ["script", "tables", "matrix", "stream", "pool", "text", "by", "record", "images", "kept", "handed", "image", "k", "spoilt", "due", "told", "needed", "datum", "letter"]
abbrev ps_law : List Str := ["script"]
theorem sc_law : FnScope nm_law ps_law (defScope s_law) := ⟨rfl, rfl, rfl, by decide +kernel, rfl, by decide +kernel, by decide +kernel⟩
def m_law (c_Matrix : Addr) (sp_law_tables sp_law_stream sp_law_cell sp_Matrix_init sp_law_pool sp_law_right_formula sp_law_is_letter sp_law_next sp_law_images sp_put sp_law_spoilt sp_law_fault sp_law_same_integer sp_formula_fault sp_is_formula sp_law_needed : SpD) : MS :=
 (mSeq (mSet 1 (mCallN sp_law_tables (mCallF sp_law_stream [] (mCons (mCall sp_law_cell [] (mCons (mVar 0) (mCons (mC (.int 0)) mNil))) mNil))))
 (mSeq (mSetF 2 (mMake c_Matrix sp_Matrix_init [] (mCons (mC (.int 2)) (mCons (mTup (mL1 (mC (.int 1)) mL0)) (mCons (mVar 1) mNil)))))
 (mSeq (mSetF 3 (mCallF sp_law_stream [] (mCons (mCall sp_law_cell [] (mCons (mVar 0) (mCons (mC (.int 1)) mNil))) mNil)))
 (mSeq (mSet 4 (mCall sp_law_pool [] (mConsIO 3 (mCons (mVar 1) mNil))))
 (mSeq (mIfS (mNot (mTest (mCall sp_law_right_formula [] (mCons (mVar 2) (mCons (mVar 4) mNil))))) (mRet (mC (.bl false))) mSkip)
 (mSeq (mSet 5 (mOpQ oIx (mQE (mOpQ oIx (mQN 4) (mOp oSub (mB1 oLen (mPk 4)) (mC (.int 1))))) (mC (.int 0))))
 (mSeq (mSetF 3 (mCallF sp_law_stream [] (mCons (mCall sp_law_cell [] (mCons (mVar 0) (mCons (mC (.int 2)) mNil))) mNil)))
 (mSeq (mSetF 6 (mC (.dct [])))
 (mSeq (mFor (mSeqI (mVar 4)) (mgN 7) (mIfS (mAnd (mTest (mCall sp_law_is_letter [] (mCons (mOpQ oIx (mQN 7) (mC (.int 0))) mNil))) (mTest (mOp oGtA (mCall sp_law_next [] (mConsIO 3 (mCons (mC (.int 4)) mNil))) (mC (.int 0))))) (mDPut 6 (mOpQ oIx (mQE (mOpQ oIx (mQN 4) (mCall sp_law_next [] (mConsIO 3 (mCons (mB1 oLen (mPk 4)) mNil))))) (mC (.int 0))) (mOpQ oIx (mQN 7) (mC (.int 0)))) mSkip))
 (mSeq (mSet 8 (mCall sp_law_images [] (mCons (mVar 4) (mCons (mVar 6) mNil))))
 (mSeq (mSetF 9 (mB1 oSorted (mLcK 6 (mgN 18) mYes (mTup (mL1 (mVar 18) (mL1 (mOpQ oDGet (mQN 6) (mVar 18)) mL0))) [18])))
 (mSeq (mSetF 10 (mB1 oDict (mPk 6)))
 (mSeq (mFor (mSeqI (mVar 4)) (mgN 7) (mSeq (mSet 11 (mCall sp_put [] (mCons (mOpQ oIx (mQN 7) (mC (.int 0))) (mCons (mVar 10) mNil))))
 (mIfS (mOr (mNot (mTest (mIsi "str" (mVar 11)))) (mTest (mOpQ oNeA (mQN 11) (mOpQ oDGet (mQN 8) (mOpQ oIx (mQN 7) (mC (.int 0))))))) (mRet (mC (.bl false))) mSkip)))
 (mSeq (mIfS (mTest (mOpQ oNeA (mQE (mB1 oSorted (mLcK 10 (mgN 18) mYes (mTup (mL1 (mVar 18) (mL1 (mOpQ oDGet (mQN 10) (mVar 18)) mL0))) [18]))) (mPk 9))) (mRet (mC (.bl false))) mSkip)
 (mSeq (mSetF 3 (mCallF sp_law_stream [] (mCons (mCall sp_law_cell [] (mCons (mVar 0) (mCons (mC (.int 3)) mNil))) mNil)))
 (mSeq (mFor (mRng1 (mC (.int 3))) (mgN 12) (mSeq (mSet 13 (mCall sp_law_spoilt [] (mConsIO 3 (mCons (mVar 1) (mCons (mVar 5) mNil)))))
 (mSeq (mSet 14 (mCall sp_law_fault [] (mCons (mVar 1) (mCons (mVar 13) mNil))))
 (mSeq (mIfS (mNot (mTest (mCall sp_law_same_integer [] (mCons (mCall sp_formula_fault [] (mCons (mVar 2) (mCons (mVar 13) mNil))) (mCons (mVar 14) mNil))))) (mRet (mC (.bl false))) mSkip)
 (mSeq (mSet 15 (mCall sp_is_formula [] (mCons (mVar 2) (mCons (mVar 13) mNil))))
 (mSeq (mIfS (mOr (mNot (mTest (mIsi "bool" (mVar 15)))) (mTest (mOpQ oNeA (mQN 15) (mOp oIsN (mVar 14) (mC .non))))) (mRet (mC (.bl false))) mSkip)
 (mSeq (mSet 16 (mCall sp_law_needed [] (mCons (mVar 2) (mCons (mVar 13) mNil))))
 (mIfS (mOr (mTest (mOp oNotBl (mOpQ oIx (mQN 16) (mC (.int 0))) (mC (.bl true)))) (mNot (mTest (mCall sp_law_same_integer [] (mCons (mOpQ oIx (mQN 16) (mC (.int 1))) (mCons (mVar 14) mNil)))))) (mRet (mC (.bl false))) mSkip))))))))
 (mSeq (mFor (mSeqI (mLst (mL1 (mC .non) (mL1 (mC (.bl true)) (mL1 (mC (.int 0)) (mL1 (mC (.int 7)) (mL1 (mTup mL0) (mL1 (mTup (mL1 (mVar 5) mL0)) (mL1 (mTup (mL1 (mTup (mL1 (mVar 5) (mL1 (mC (.int 1)) mL0))) mL0)) mL0))))))))) (mgN 17) (mIfS (mTest (mOp oNotBl (mCall sp_is_formula [] (mCons (mVar 2) (mCons (mVar 17) mNil))) (mC (.bl false)))) (mRet (mC (.bl false))) mSkip))
 (mRet (mC (.bl true))))))))))))))))))))
theorem dv_law {c_Matrix : Addr} {sp_law_tables sp_law_stream sp_law_cell sp_Matrix_init sp_law_pool sp_law_right_formula sp_law_is_letter sp_law_next sp_law_images sp_put sp_law_spoilt sp_law_fault sp_law_same_integer sp_formula_fault sp_is_formula sp_law_needed : SpD} {a_law_tables a_law_stream a_law_cell a_Matrix_init a_law_pool a_law_right_formula a_law_is_letter a_law_next a_law_images a_put a_law_spoilt a_law_fault a_law_same_integer a_formula_fault a_is_formula a_law_needed : Addr} (T : Txt K mg c_Matrix) (D_law_tables : Def P w K mg base "_law_tables" a_law_tables ps_law_tables 4 sp_law_tables) (D_law_stream : Def P w K mg base "_law_stream" a_law_stream ps_law_stream 1 sp_law_stream) (D_law_cell : Def P w K mg base "_law_cell" a_law_cell ps_law_cell 1 sp_law_cell) (D_Matrix_init : KDef P w K mg base "Matrix" c_Matrix a_Matrix_init ps_Matrix_init 5 sp_Matrix_init) (D_law_pool : Def P w K mg base "_law_pool" a_law_pool ps_law_pool 3 sp_law_pool) (D_law_right_formula : Def P w K mg base "_law_right_formula" a_law_right_formula ps_law_right_formula 10 sp_law_right_formula) (D_law_is_letter : Def P w K mg base "_law_is_letter" a_law_is_letter ps_law_is_letter 1 sp_law_is_letter) (D_law_next : Def P w K mg base "_law_next" a_law_next ps_law_next 1 sp_law_next) (D_law_images : Def P w K mg base "_law_images" a_law_images ps_law_images 2 sp_law_images) (D_put : Def P w K mg base "put" a_put ps_put 1 sp_put) (D_law_spoilt : Def P w K mg base "_law_spoilt" a_law_spoilt ps_law_spoilt 4 sp_law_spoilt) (D_law_fault : Def P w K mg base "_law_fault" a_law_fault ps_law_fault 2 sp_law_fault) (D_law_same_integer : Def P w K mg base "_law_same_integer" a_law_same_integer ps_law_same_integer 1 sp_law_same_integer) (D_formula_fault : Def P w K mg base "formula_fault" a_formula_fault ps_formula_fault 4 sp_formula_fault) (D_is_formula : Def P w K mg base "is_formula" a_is_formula ps_is_formula 5 sp_is_formula) (D_law_needed : Def P w K mg base "_law_needed" a_law_needed ps_law_needed 6 sp_law_needed) {f : Addr} (cdv : Value) (A : Around) (outer : List Env) (s : Shared) (H : Hp) (E : XK) (hr : Room 10 (A.deeper (PyProof.Rows.envOfC "law" (defScope s_law) s.heap.objs.size f cdv))) :
  RSs (cxOf (L2.CX P w) P w K mg base nm_law "law" (defScope s_law) f cdv A outer s H E) (defBody s_law) (m_law c_Matrix sp_law_tables sp_law_stream sp_law_cell sp_Matrix_init sp_law_pool sp_law_right_formula sp_law_is_letter sp_law_next sp_law_images sp_put sp_law_spoilt sp_law_fault sp_law_same_integer sp_formula_fault sp_is_formula sp_law_needed) := by
  have nd := sc_law.nd
  exact (rss_cons (rs_set (i := 1) nd rfl (by first | exact Or.inl rfl | exact Or.inr rfl) (re_callN D_law_tables hr (rf_callD D_law_stream hr (ra_cons (re_callD D_law_cell hr (ra_cons (re_v (pv 0)) (ra_cons re_int ra_nil))) ra_nil))))
 (rss_cons (rs_setF (i := 2) nd rfl (by first | exact Or.inl rfl | exact Or.inr rfl) (rf_makeD D_Matrix_init hr (ra_cons re_int (ra_cons (re_tup (rl_cons re_int rl_nil)) (ra_cons (re_v (pv 1)) ra_nil)))))
 (rss_cons (rs_setF (i := 3) nd rfl (by first | exact Or.inl rfl | exact Or.inr rfl) (rf_callD D_law_stream hr (ra_cons (re_callD D_law_cell hr (ra_cons (re_v (pv 0)) (ra_cons re_int ra_nil))) ra_nil)))
 (rss_cons (rs_set (i := 4) nd rfl (by first | exact Or.inl rfl | exact Or.inr rfl) (re_callD D_law_pool hr (ra_io (pv 3) (ra_cons (re_v (pv 1)) ra_nil))))
 (rss_cons (rs_if (rt_not (rt_val (re_callD D_law_right_formula hr (ra_cons (re_v (pv 2)) (ra_cons (re_v (pv 4)) ra_nil))))) (rss_one (rs_ret re_bl)) rss_nil)
 (rss_cons (rs_set (i := 5) nd rfl (by first | exact Or.inl rfl | exact Or.inr rfl) (re_ix (rq_e (re_ix (rq_n (pv 4)) (re_sub (re_B1 call_lenA lift_len (by rfl) T.b_len PySem.boot_len (rp_v (pv 4))) re_int) (fun _ _ => rfl))) re_int (fun _ _ => rfl)))
 (rss_cons (rs_setF (i := 3) nd rfl (by first | exact Or.inl rfl | exact Or.inr rfl) (rf_callD D_law_stream hr (ra_cons (re_callD D_law_cell hr (ra_cons (re_v (pv 0)) (ra_cons re_int ra_nil))) ra_nil)))
 (rss_cons (rs_setF (i := 6) nd rfl (by first | exact Or.inl rfl | exact Or.inr rfl) rf_dnew)
 (rss_cons (rs_for (passes_of rfl) rfl (ri_seq (re_v (pv 4))) (rg_n (pg_name (i := 7) nd rfl (Or.inl rfl))) (rss_one (rs_if ((rw_and (rt_val (re_callD D_law_is_letter hr (ra_cons (re_ix (rq_n (pv 7)) re_int (fun _ _ => rfl)) ra_nil))) (rw_and1 (rt_gtA (re_callD D_law_next hr (ra_io (pv 3) (ra_cons re_int ra_nil))) re_int)))).rt (rss_one (rs_dput (hu_of hr) (pv 6) (re_ix (rq_n (pv 7)) re_int (fun _ _ => rfl)) (re_ix (rq_e (re_ix (rq_n (pv 4)) (re_callD D_law_next hr (ra_io (pv 3) (ra_cons (re_B1 call_lenA lift_len (by rfl) T.b_len PySem.boot_len (rp_v (pv 4))) ra_nil))) (fun _ _ => rfl))) re_int (fun _ _ => rfl)))) rss_nil)))
 (rss_cons (rs_set (i := 8) nd rfl (by first | exact Or.inl rfl | exact Or.inr rfl) (re_callD D_law_images hr (ra_cons (re_v (pv 4)) (ra_cons (re_v (pv 6)) ra_nil))))
 (rss_cons (rs_setF (i := 9) nd rfl (by first | exact Or.inl rfl | exact Or.inr rfl) (rf_sorted rfl (by rfl) T.b_sorted ((((rf_lcK (own := [("letter", 18)]) (gt := gName 18) rfl nd (pv 6) (blkOk_by (own := [("letter", 18)]) (N := nm_law) (sc := defScope s_law) (by decide +kernel)) (fun _ _ _ _ _ => pg_name (i := 18) nd rfl (Or.inl rfl)) (gok_n (by decide)) (fun _ _ _ _ _ => rts_nil) (fun _ _ _ _ _ => (re_tup (rl_cons (re_v (pv 18)) (rl_cons (re_dget (hu_of hr) (rq_n (pv 6)) (re_v (pv 18)) (fun _ _ => rfl)) rl_nil)))))).re)).rp))
 (rss_cons (rs_setF (i := 10) nd rfl (by first | exact Or.inl rfl | exact Or.inr rfl) (rf_T1 call_dictD lift_dict (by rfl) T.b_dict (by decide +kernel) (rp_v (pv 6))))
 (rss_cons (rs_for (passes_of rfl) rfl (ri_seq (re_v (pv 4))) (rg_n (pg_name (i := 7) nd rfl (Or.inl rfl))) (rss_cons (rs_set (i := 11) nd rfl (by first | exact Or.inl rfl | exact Or.inr rfl) (re_callD D_put hr (ra_cons (re_ix (rq_n (pv 7)) re_int (fun _ _ => rfl)) (ra_cons (re_v (pv 10)) ra_nil))))
 (rss_one (rs_if ((rw_or (rt_not (rt_val (re_isi (by rfl) T.b_isinstance (re_v (pv 11)) (pe_bltn (v := .ty "str") (by rfl) T.b_str PyProof.Rows.boot_str rfl)))) (rw_or1 (rt_neA hr.units (rq_n (pv 11)) ((re_dget (hu_of hr) (rq_n (pv 8)) (re_ix (rq_n (pv 7)) re_int (fun _ _ => rfl)) (fun _ _ => rfl))).rp)))).rt (rss_one (rs_ret re_bl)) rss_nil))))
 (rss_cons (rs_if (rt_neA hr.units (rq_e (((rf_sorted rfl (by rfl) T.b_sorted ((((rf_lcK (own := [("letter", 18)]) (gt := gName 18) rfl nd (pv 10) (blkOk_by (own := [("letter", 18)]) (N := nm_law) (sc := defScope s_law) (by decide +kernel)) (fun _ _ _ _ _ => pg_name (i := 18) nd rfl (Or.inl rfl)) (gok_n (by decide)) (fun _ _ _ _ _ => rts_nil) (fun _ _ _ _ _ => (re_tup (rl_cons (re_v (pv 18)) (rl_cons (re_dget (hu_of hr) (rq_n (pv 10)) (re_v (pv 18)) (fun _ _ => rfl)) rl_nil)))))).re)).rp)).re)) (rp_v (pv 9))) (rss_one (rs_ret re_bl)) rss_nil)
 (rss_cons (rs_setF (i := 3) nd rfl (by first | exact Or.inl rfl | exact Or.inr rfl) (rf_callD D_law_stream hr (ra_cons (re_callD D_law_cell hr (ra_cons (re_v (pv 0)) (ra_cons re_int ra_nil))) ra_nil)))
 (rss_cons (rs_for (passes_of rfl) rfl (ri_rng1 (by rfl) T.b_range re_int) (rg_n (pg_name (i := 12) nd rfl (Or.inl rfl))) (rss_cons (rs_set (i := 13) nd rfl (by first | exact Or.inl rfl | exact Or.inr rfl) (re_callD D_law_spoilt hr (ra_io (pv 3) (ra_cons (re_v (pv 1)) (ra_cons (re_v (pv 5)) ra_nil)))))
 (rss_cons (rs_set (i := 14) nd rfl (by first | exact Or.inl rfl | exact Or.inr rfl) (re_callD D_law_fault hr (ra_cons (re_v (pv 1)) (ra_cons (re_v (pv 13)) ra_nil))))
 (rss_cons (rs_if (rt_not (rt_val (re_callD D_law_same_integer hr (ra_cons (re_callD D_formula_fault hr (ra_cons (re_v (pv 2)) (ra_cons (re_v (pv 13)) ra_nil))) (ra_cons (re_v (pv 14)) ra_nil))))) (rss_one (rs_ret re_bl)) rss_nil)
 (rss_cons (rs_set (i := 15) nd rfl (by first | exact Or.inl rfl | exact Or.inr rfl) (re_callD D_is_formula hr (ra_cons (re_v (pv 2)) (ra_cons (re_v (pv 13)) ra_nil))))
 (rss_cons (rs_if ((rw_or (rt_not (rt_val (re_isi (by rfl) T.b_isinstance (re_v (pv 15)) (pe_bltn (v := .ty "bool") (by rfl) T.b_bool PyProof.Rows.boot_bool rfl)))) (rw_or1 (rt_neA hr.units (rq_n (pv 15)) ((re_isN (re_v (pv 14)))).rp)))).rt (rss_one (rs_ret re_bl)) rss_nil)
 (rss_cons (rs_set (i := 16) nd rfl (by first | exact Or.inl rfl | exact Or.inr rfl) (re_callD D_law_needed hr (ra_cons (re_v (pv 2)) (ra_cons (re_v (pv 13)) ra_nil))))
 (rss_one (rs_if ((rw_or (rt_notBl (re_ix (rq_n (pv 16)) re_int (fun _ _ => rfl))) (rw_or1 (rt_not (rt_val (re_callD D_law_same_integer hr (ra_cons (re_ix (rq_n (pv 16)) re_int (fun _ _ => rfl)) (ra_cons (re_v (pv 14)) ra_nil)))))))).rt (rss_one (rs_ret re_bl)) rss_nil)))))))))
 (rss_cons (rs_for (passes_of rfl) rfl (ri_seq (((rf_lst (rl_cons re_non (rl_cons re_bl (rl_cons re_int (rl_cons re_int (rl_cons (re_tup rl_nil) (rl_cons (re_tup (rl_cons (re_v (pv 5)) rl_nil)) (rl_cons (re_tup (rl_cons (re_tup (rl_cons (re_v (pv 5)) (rl_cons re_int rl_nil))) rl_nil)) rl_nil))))))))).re)) (rg_n (pg_name (i := 17) nd rfl (Or.inl rfl))) (rss_one (rs_if (rt_notBl (re_callD D_is_formula hr (ra_cons (re_v (pv 2)) (ra_cons (re_v (pv 17)) ra_nil)))) (rss_one (rs_ret re_bl)) rss_nil)))
 (rss_one (rs_ret re_bl)))))))))))))))))))
end
end A
set_option maxHeartbeats 4000000
namespace A
open PySem L2 DL
/-! ### plain notions -/
def isL (w : Str) : Bool := match w.cps.toList with
  | [c] => decide (97 ≤ c) && decide (c ≤ 122)
  | _ => false
theorem str_eta (w : Str) : w = ⟨w.cps.toList.toArray⟩ := by cases w; simp
theorem len_eq (w : Str) : w.length = w.cps.toList.length := by show w.cps.size = _; simp
theorem isL_one {w : Str} (h : w.length = 1) : ∃ c, w = ⟨#[c]⟩ := by
  rw [len_eq] at h
  obtain ⟨c, hc⟩ := List.length_eq_one_iff.mp h
  exact ⟨c, by rw [str_eta w, hc]⟩
theorem isL_c (c : Nat) : isL ⟨#[c]⟩ = (decide (97 ≤ c) && decide (c ≤ 122)) := rfl
theorem isL_len {w : Str} (h : w.length ≠ 1) : isL w = false := by
  rw [len_eq] at h
  unfold isL
  split
  · rename_i c hc; rw [hc] at h; simp at h
  · rfl
def sp_is_letter : SpD := fun as Qd _ => ∃ w : Str, as = [.d (.str w)] ∧ w.length ≤ 4000 ∧ Qd (.d (.bl (isL w))) []
theorem le_size {n : Nat} (h : n ≤ 100000) : n ≤ sizeLine := by rw [sizeLine_eq]; omega
theorem lt_size {n : Nat} (h : n ≤ 100000) : n < sizeLine := by rw [sizeLine_eq]; omega
theorem ok_is_letter (as : List Slot) (Qd Ed) (hl : as.length = 1) (h : sp_is_letter as Qd Ed) : m_is_letter (dEnds as Qd) (as ++ List.replicate 0 .un) (dWish as Ed) := by
  obtain ⟨w, rfl, hw, hq⟩ := h
  unfold m_is_letter
  have hw' : w.length ≤ sizeLine := le_size (by omega)
  simp [hw']
  by_cases h1 : w.length = 1
  · obtain ⟨c, rfl⟩ := isL_one h1
    rw [if_pos (by exact_mod_cast h1)]
    rw [isL_c] at hq
    have e1 : leS (Str.ofString "a") ⟨#[c]⟩ = decide (97 ≤ c) := by
      show (!decide ([c] < [97])) = _
      by_cases q : c < 97
      · simp [List.cons_lt_cons_iff, q]
      · simp [List.cons_lt_cons_iff, q]; omega
    have e2 : leS ⟨#[c]⟩ (Str.ofString "z") = decide (c ≤ 122) := by
      show (!decide ([122] < [c])) = _
      by_cases q : 122 < c
      · simp [List.cons_lt_cons_iff, q]
      · simp [List.cons_lt_cons_iff, q]; omega
    rw [e1, e2]
    cases q : decide (97 ≤ c) with
    | true => rw [q] at hq; simpa using hq
    | false => rw [q] at hq; simpa using hq
  · rw [if_neg (by exact_mod_cast h1)]
    rw [isL_len h1] at hq
    exact hq
theorem alpha_eq : (Str.ofString "abcdefghijklmnopqrstuvwxyz").cps.toList = List.range' 97 26 := by decide +kernel
theorem ok_law_is_letter (as : List Slot) (Qd Ed) (hl : as.length = 1) (h : sp_is_letter as Qd Ed) : m_law_is_letter (dEnds as Qd) (as ++ List.replicate 0 .un) (dWish as Ed) := by
  obtain ⟨w, rfl, hw, hq⟩ := h
  unfold m_law_is_letter
  have hw' : w.length ≤ sizeLine := le_size (by omega)
  simp [hw', oInA]
  by_cases h1 : w.length = 1
  · obtain ⟨c, rfl⟩ := isL_one h1
    rw [if_pos (by exact_mod_cast h1)]
    have := PySem.StrLaws.found_one (Str.ofString "abcdefghijklmnopqrstuvwxyz") c
    rw [this, alpha_eq]
    rw [isL_c] at hq
    have e : decide (c ∈ List.range' 97 26) = (decide (97 ≤ c) && decide (c ≤ 122)) := by
      rw [← Bool.decide_and]
      congr 1
      rw [List.mem_range']
      simp
      constructor
      · rintro ⟨i, hi, rfl⟩; omega
      · rintro ⟨h1, h2⟩; exact ⟨c - 97, by omega, by omega⟩
    rw [e]
    exact hq
  · rw [if_neg (by exact_mod_cast h1)]
    rw [isL_len h1] at hq
    exact hq
/-! ### the stream -/
def stD (d : D) (n : Nat) : Prop := ∃ r c k : Int, d = .lst [.int r, .int c, .int k] ∧ 0 ≤ r ∧ 0 ≤ k ∧ k ≤ n
def sp_law_next : SpD := fun as Qd _ => ∃ (a : Addr) (d : D) (n : Nat) (m : Int), as = [.own a d, .d (.int m)] ∧ stD d n ∧ n < 1000000 ∧ 1 ≤ m ∧ m ≤ 100000 ∧ ∀ (r : Int) (d' : D), 0 ≤ r → r < m → stD d' (n + 1) → Qd (.d (.int r)) [d']
theorem ok_law_next (as : List Slot) (Qd Ed) (hl : as.length = 2) (h : sp_law_next as Qd Ed) : m_law_next (dEnds as Qd) (as ++ List.replicate 3 .un) (dWish as Ed) := by
  obtain ⟨a, d, n, m, rfl, ⟨r, c, k, rfl, hr, hk0, hk⟩, hn, hm1, hm2, hq⟩ := h
  unfold m_law_next
  simp
  have c1 : CMul 7919 (k + 1) := .inl ⟨by omega, by omega⟩
  have c2 : CMul (c % 2147483647 + 7919 * (k + 1)) 48271 := .inr ⟨by omega, by omega⟩
  have c3 : CMul ((c % 2147483647 + 7919 * (k + 1)) * 48271 % 2147483647) ((c % 2147483647 + 7919 * (k + 1)) * 48271 % 2147483647) := .inl ⟨by omega, by omega⟩
  have c4 : CMul 69621 (k + 1) := .inl ⟨by omega, by omega⟩
  split
  · rename_i hpos
    refine ⟨by omega, ⟨by omega, by omega⟩, hq _ _ (Int.emod_nonneg _ (by omega)) (Int.emod_lt_of_pos _ (by omega)) ⟨_, _, _, rfl, Int.ediv_nonneg hr (by omega), by omega, by omega⟩⟩
  · exact ⟨c1, c2, c3, c4, by omega, hq _ _ (Int.emod_nonneg _ (by omega)) (Int.emod_lt_of_pos _ (by omega)) ⟨_, _, _, rfl, hr, by omega, by omega⟩⟩
def isChr (w : Str) : Prop := ∃ c, w = ⟨#[c]⟩ ∧ 97 ≤ c ∧ c ≤ 122
def sp_law_letter : SpD := fun as Qd _ => ∃ (a : Addr) (d : D) (n : Nat), as = [.own a d] ∧ stD d n ∧ n < 900000 ∧ ∀ (w : Str) (d' : D), isChr w → stD d' (n + 1) → Qd (.d (.str w)) [d']
theorem alpha_at {r : Int} (h0 : 0 ≤ r) (h : r < 26) : atI (Str.ofString "abcdefghijklmnopqrstuvwxyz").cps.toList r = some (97 + r.toNat) := by
  obtain ⟨n, rfl⟩ : ∃ n : Nat, r = n := ⟨r.toNat, by omega⟩
  rw [DL.atI_nat, alpha_eq]
  have hn : n < 26 := by omega
  rw [List.getElem?_eq_getElem (by simpa using hn), List.getElem_range']
  simp
theorem ok_law_letter (as : List Slot) (Qd Ed) (hl : as.length = 1) (h : sp_law_letter as Qd Ed) : m_law_letter sp_law_next (dEnds as Qd) (as ++ List.replicate 0 .un) (dWish as Ed) := by
  obtain ⟨a, d, n, rfl, hd, hn, hq⟩ := h
  unfold m_law_letter
  simp
  refine ⟨a, d, n, 26, rfl, hd, by omega, by omega, by omega, fun r d' h0 h1 hd' => ?_⟩
  simp [putB]
  refine ⟨le_size (by decide), _, alpha_at h0 h1, hq _ _ ⟨_, rfl, by omega, by omega⟩ hd'⟩
def isNm (w : Str) : Prop := 2 ≤ w.length ∧ w.length ≤ 8 ∧ ∀ c ∈ w.cps.toList, 97 ≤ c ∧ c ≤ 122
def sp_law_name : SpD := fun as Qd _ => ∃ (a : Addr) (d : D) (n : Nat), as = [.own a d] ∧ stD d n ∧ n < 800000 ∧ ∀ (w : Str) (d' : D), isNm w → stD d' (n + 9) → Qd (.d (.str w)) [d']
theorem cps_app (a b : Str) : (a ++ b).cps.toList = a.cps.toList ++ b.cps.toList := by show (a.cps ++ b.cps).toList = _; simp
theorem stD_mono {d : D} {n m : Nat} (h : stD d n) (k : n ≤ m) : stD d m := by obtain ⟨r, c, x, e, a, b, q⟩ := h; exact ⟨r, c, x, e, a, b, by omega⟩
theorem ok_law_name (as : List Slot) (Qd Ed) (hl : as.length = 1) (h : sp_law_name as Qd Ed) : m_law_name sp_law_next sp_law_letter (dEnds as Qd) (as ++ List.replicate 2 .un) (dWish as Ed) := by
  obtain ⟨a, d, n, rfl, hd, hn, hq⟩ := h
  unfold m_law_name
  simp
  refine ⟨a, d, n, 7, rfl, hd, by omega, by omega, by omega, fun r d' h0 h1 hd' => ?_⟩
  simp [putB]
  refine ⟨by omega, by omega, ?_⟩
  obtain ⟨k, rfl⟩ : ∃ k : Nat, r = k := ⟨r.toNat, by omega⟩
  have ek : ((2 : Int) + (k : Int)).toNat = k + 2 := by omega
  rw [ek]
  refine forD_ind (I := fun ds e => ∃ (w : Str) (d : D) (x : Slot), e = [.own a d, .d (.str w), x] ∧ stD d (n + 1 + w.length) ∧ w.length + ds.length = k + 2 ∧ (∀ c ∈ w.cps.toList, 97 ≤ c ∧ c ≤ 122)) (fun e ⟨w, d, x, he, hs, hlen, hc⟩ => ?_) (fun y ds e ih ⟨w, d, x, he, hs, hlen, hc⟩ => ?_) _ _ ⟨Str.ofString "", d', .un, rfl, hd', by rw [rngD_len]; show 0 + (k + 2) = _; omega, fun c h => by cases h⟩
  · subst he
    simp at hlen
    simp
    exact hq w d ⟨by omega, by omega, hc⟩ (stD_mono hs (by omega))
  · subst he
    simp at hlen
    simp
    refine ⟨a, d, _, rfl, hs, by omega, fun u d2 ⟨c, hu, hc1, hc2⟩ hd2 => ?_⟩
    subst hu
    simp [putB]
    have hul : (⟨#[c]⟩ : Str).length = 1 := rfl
    have hwl : (w ++ ⟨#[c]⟩ : Str).length = w.length + 1 := by rw [len_eq, cps_app, List.length_append, ← len_eq]; rfl
    refine ⟨le_size (by rw [hul]; omega), ih _ ⟨_, d2, _, rfl, by rw [hwl]; exact hd2, by rw [hwl]; omega, fun c' h => ?_⟩⟩
    rw [cps_app] at h
    rcases List.mem_append.mp h with h | h
    · exact hc c' h
    · have : c' = c := by simpa using h
      subst this; exact ⟨hc1, hc2⟩
def sp_law_cell : SpD := fun as Qd _ => ∃ (zs : List Int) (k : Int), as = [.d (.scr (zs.map .int)), .d (.int k)] ∧ 0 ≤ k ∧ ∀ c : Int, Qd (.d (.int c)) []
theorem ok_law_cell (as : List Slot) (Qd Ed) (hl : as.length = 2) (h : sp_law_cell as Qd Ed) : m_law_cell (dEnds as Qd) (as ++ List.replicate 0 .un) (dWish as Ed) := by
  obtain ⟨zs, k, rfl, hk, hq⟩ := h
  unfold m_law_cell
  simp
  obtain ⟨n, rfl⟩ : ∃ n : Nat, k = n := ⟨k.toNat, by omega⟩
  split
  · rename_i hlt
    have hn : n < zs.length := by omega
    exact ⟨.int zs[n], by rw [DL.atI_nat]; simp [hn], by simp; exact hq _⟩
  · exact hq 0
def sp_law_stream : SpD := fun as Qd _ => ∃ c : Int, as = [.d (.int c)] ∧ ∀ (a : Addr) (d : D), stD d 0 → Qd (.own a d) []
theorem ok_law_stream (as : List Slot) (Qd Ed) (hl : as.length = 1) (h : sp_law_stream as Qd Ed) : m_law_stream (dEnds as Qd) (as ++ List.replicate 1 .un) (dWish as Ed) := by
  obtain ⟨c, rfl, hq⟩ := h
  unfold m_law_stream
  simp
  refine ⟨⟨by omega, by omega, by decide⟩, ?_⟩
  split <;> split <;> exact fun a _ => hq a _ ⟨_, _, _, rfl, by omega, by omega, by omega⟩
/-! ### tables -/
structure Tab where
  nm : Str
  pl : Nat
  en : List (List Int)
def signD (s : List Int) : D := .tup (s.map .int)
def tabD (t : Tab) : D := .tup [.str t.nm, .int t.pl, .tup (t.en.map signD)]
structure TabOk (t : Tab) : Prop where
  nm : isNm t.nm
  pl : t.pl ≤ 3
  en : t.en.length = 2 ^ t.pl
  sg : ∀ s ∈ t.en, s = [0] ∨ s = [1] ∨ s = [0, 1]
structure TabsOk (ts : List Tab) : Prop where
  len : ts.length ≤ 6
  all : ∀ t ∈ ts, TabOk t
  nd : (ts.map (·.nm)).Nodup
def sp_law_tables : SpD := fun as Qd _ => ∃ (a : Addr) (d : D) (n : Nat), as = [.own a d] ∧ stD d n ∧ n < 500000 ∧ ∀ (ts : List Tab) (d' : D), TabsOk ts → stD d' (n + 200) → Qd (.d (.tup (ts.map tabD))) [d']
theorem ok_law_tables (as : List Slot) (Qd Ed) (hl : as.length = 1) (h : sp_law_tables as Qd Ed) : m_law_tables sp_law_next sp_law_name (dEnds as Qd) (as ++ List.replicate 7 .un) (dWish as Ed) := by
  obtain ⟨a, d, n, rfl, hd, hn, hq⟩ := h
  unfold m_law_tables
  simp
  intro b hb c hc
  refine ⟨a, d, n, 7, rfl, hd, by omega, by omega, by omega, fun r d' h0 h1 hd' => ?_⟩
  simp [putB]
  refine ⟨by omega, by omega, ?_⟩
  obtain ⟨k, rfl⟩ : ∃ k : Nat, r = k := ⟨r.toNat, by omega⟩
  have ek : ((k : Int)).toNat = k := by omega
  rw [ek]
  refine forD_ind (I := fun ds e => ∃ (ts : List Tab) (d : D) (x3 x4 x5 x6 x7 : Slot) (m : Nat), e = [.own a d, .own b (.lst (ts.map tabD)), .own c (.lst ((ts.map (·.nm)).map .str)), x3, x4, x5, x6, x7] ∧ stD d (n + 1 + 20 * m) ∧ m + ds.length = k ∧ ts.length ≤ m ∧ TabsOk ts) (fun e ⟨ts, d, x3, x4, x5, x6, x7, m, he, hs, hm, htl, hok⟩ => ?_) (fun y ds e ih ⟨ts, d, x3, x4, x5, x6, x7, m, he, hs, hm, htl, hok⟩ => ?_) _ _ ⟨[], d', .un, .un, .un, .un, .un, 0, rfl, hd', by rw [rngD_len]; omega, Nat.le_refl _, ⟨by simp, by simp, by simp⟩⟩
  · subst he
    simp at hm
    simp [-List.map_map]
    exact hq ts d hok (stD_mono hs (by omega))
  · subst he
    simp at hm
    simp [-List.map_map]
    refine ⟨a, d, _, rfl, hs, by omega, fun w d2 hw hd2 => ?_⟩
    simp [putB, -List.map_map]
    refine ⟨a, d2, _, 4, rfl, hd2, by omega, by omega, by omega, fun r d3 h0 h1 hd3 => ?_⟩
    simp [putB, -List.map_map]
    obtain ⟨pl, rfl⟩ : ∃ pl : Nat, r = pl := ⟨r.toNat, by omega⟩
    intro f hf
    have hpl : pl = 0 ∨ pl = 1 ∨ pl = 2 ∨ pl = 3 := by omega
    refine ⟨.int ((2 ^ pl : Nat) : Int), by rcases hpl with rfl | rfl | rfl | rfl <;> rw [DL.atI_nat] <;> rfl, ?_⟩
    have hp8 : 2 ^ pl ≤ 8 := by rcases hpl with rfl | rfl | rfl | rfl <;> decide
    generalize hP : 2 ^ pl = P2 at hp8 ⊢
    refine And.intro (by omega) (And.intro (by omega) ?_)
    rw [Int.toNat_natCast]
    refine forD_ind (I := fun ds2 e => ∃ (en : List (List Int)) (d : D) (x7 : Slot), e = [.own a d, .own b (.lst (ts.map tabD)), .own c (.lst ((ts.map (·.nm)).map .str)), .d y, .d (.str w), .d (.int pl), .own f (.lst (en.map signD)), x7] ∧ stD d (n + 1 + 20 * m + 9 + 1 + en.length) ∧ en.length + ds2.length = P2 ∧ (∀ s ∈ en, s = [0] ∨ s = [1] ∨ s = [0, 1])) (fun e ⟨en, d, x7, he, hs, hl, hen⟩ => ?_) (fun y2 ds2 e ih2 ⟨en, d, x7, he, hs, hl, hen⟩ => ?_) _ _ ⟨[], d3, x7, rfl, hd3, by rw [rngD_len]; simp, by simp⟩
    · subst he
      simp at hl
      simp [-List.map_map]
      have hcond : (ts.map (·.nm)).map D.str = (ts.map (·.nm)).map D.str := rfl
      split
      · rename_i hin
        refine ⟨lt_size (by omega), ih _ ⟨ts ++ [⟨w, pl, en⟩], d, .d y, .d (.str w), .d (.int pl), .own f (.lst (en.map signD)), x7, m + 1, ?_, stD_mono hs (by omega), by omega, by simp; omega, ⟨by simp; omega, ?_, ?_⟩⟩⟩
        · simp [tabD]
        · intro t ht
          rcases List.mem_append.mp ht with ht | ht
          · exact hok.all t ht
          · obtain rfl : t = ⟨w, pl, en⟩ := by simpa using ht
            exact ⟨hw, by show pl ≤ 3; omega, by show en.length = 2 ^ pl; rw [hP]; omega, hen⟩
        · rw [List.map_append, List.nodup_append]
          refine ⟨hok.nd, by simp, ?_⟩
          intro x hx z hz e
          simp at hz
          subst hz
          subst e
          exact absurd hx (by simpa [-List.map_map] using hin)
      · exact ih _ ⟨ts, d, .d y, .d (.str w), .d (.int pl), .own f (.lst (en.map signD)), x7, m + 1, rfl, stD_mono hs (by omega), by omega, by omega, hok⟩
    · subst he
      simp at hl
      simp [-List.map_map]
      refine ⟨a, d, _, 3, rfl, hs, by omega, by omega, by omega, fun r d4 h0 h1 hd4 => ?_⟩
      simp [putB, -List.map_map]
      have hr : r = 0 ∨ r = 1 ∨ r = 2 := by omega
      have fin : ∀ sg : List Int, (sg = [0] ∨ sg = [1] ∨ sg = [0, 1]) → _ := fun sg hsg => ih2 [.own a d4, .own b (.lst (ts.map tabD)), .own c (.lst ((ts.map (·.nm)).map .str)), .d y, .d (.str w), .d (.int pl), .own f (.lst ((en ++ [sg]).map signD)), .d y2] ⟨en ++ [sg], d4, _, rfl, stD_mono hd4 (by simp; omega), by simp; omega, fun q hq => by
        rcases List.mem_append.mp hq with hq | hq
        · exact hen q hq
        · obtain rfl : q = sg := by simpa using hq
          exact hsg⟩
      rcases hr with rfl | rfl | rfl
      · have := fin [0] (.inl rfl)
        simp [-List.map_map, signD] at this ⊢; exact ⟨lt_size (by omega), this⟩
      · have := fin [1] (.inr (.inl rfl))
        simp [-List.map_map, signD] at this ⊢; exact ⟨lt_size (by omega), this⟩
      · have := fin [0, 1] (.inr (.inr rfl))
        simp [-List.map_map, signD] at this ⊢; exact ⟨lt_size (by omega), this⟩
end A
set_option maxHeartbeats 4000000
namespace A
open PySem L2 DL
/-! ### the matrix -/
def sgOk (s : List Int) : Prop := s = [0] ∨ s = [1] ∨ s = [0, 1]
def sp_is_value : SpD := fun as Qd _ => ∃ (m v : Int), as = [.d (.int m), .d (.int v)] ∧ Qd (.d (.bl (decide (0 ≤ v) && decide (v < m)))) []
theorem ok_is_value (as : List Slot) (Qd Ed) (hl : as.length = 2) (h : sp_is_value as Qd Ed) : m_is_value (dEnds as Qd) (as ++ List.replicate 0 .un) (dWish as Ed) := by
  obtain ⟨m, v, rfl, hq⟩ := h
  unfold m_is_value
  simp
  split
  · rename_i h; simpa [h] using hq
  · rename_i h; simpa [h] using hq
def sp_is_sign : SpD := fun as Qd _ => ∃ (s : List Int), as = [.d (.int 2), .d (signD s)] ∧ sgOk s ∧ Qd (.d (.bl true)) []
theorem ok_is_sign (as : List Slot) (Qd Ed) (hl : as.length = 2) (h : sp_is_sign as Qd Ed) : m_is_sign sp_is_value (dEnds as Qd) (as ++ List.replicate 2 .un) (dWish as Ed) := by
  obtain ⟨s, rfl, hs, hq⟩ := h
  unfold m_is_sign
  rcases hs with rfl | rfl | rfl <;> simp [signD, forD, sp_is_value, and_assoc] <;> exact hq
def sp_row_count : SpD := fun as Qd _ => ∃ (n : Nat), as = [.d (.int 2), .d (.int n)] ∧ n ≤ 3 ∧ Qd (.d (.int ((2 ^ n : Nat) : Int))) []
theorem ok_row_count (as : List Slot) (Qd Ed) (hl : as.length = 2) (h : sp_row_count as Qd Ed) : m_row_count (dEnds as Qd) (as ++ List.replicate 2 .un) (dWish as Ed) := by
  obtain ⟨n, rfl, hn, hq⟩ := h
  unfold m_row_count
  have c : ∀ i : Int, CMul i 2 := fun i => .inr ⟨by omega, by omega⟩
  have hn' : n = 0 ∨ n = 1 ∨ n = 2 ∨ n = 3 := by omega
  rcases hn' with rfl | rfl | rfl | rfl
  · simp [rngD, forD]; exact hq
  · simp [rngD, forD, List.range_succ, c]; exact hq
  · simp [rngD, forD, List.range_succ, c]; exact hq
  · simp [rngD, forD, List.range_succ, c]; exact hq
def sp_is_name : SpD := fun as Qd _ => ∃ (w : Str), as = [.d (.str w)] ∧ isNm w ∧ Qd (.d (.bl true)) []
theorem leS_a {c : Nat} (h : 97 ≤ c) : leS (Str.ofString "a") ⟨#[c]⟩ = true := by
  show (!decide ([c] < [97])) = _
  simp [List.cons_lt_cons_iff]; omega
theorem leS_z {c : Nat} (h : c ≤ 122) : leS ⟨#[c]⟩ (Str.ofString "z") = true := by
  show (!decide ([122] < [c])) = _
  simp [List.cons_lt_cons_iff]; omega
theorem ok_is_name (as : List Slot) (Qd Ed) (hl : as.length = 1) (h : sp_is_name as Qd Ed) : m_is_name (dEnds as Qd) (as ++ List.replicate 1 .un) (dWish as Ed) := by
  obtain ⟨w, rfl, ⟨h1, h2, h3⟩, hq⟩ := h
  unfold m_is_name
  have e1 : ((2 : Int) ≤ (w.length : Int)) := by omega
  have e2 : ((w.length : Int) ≤ 8) := by omega
  simp [e1, e2]
  refine ⟨le_size (by omega), ?_⟩
  have hds : ∀ d ∈ chrs w, ∃ c, d = .str ⟨#[c]⟩ ∧ 97 ≤ c ∧ c ≤ 122 := fun d hd => by
    unfold chrs at hd
    obtain ⟨c, hc, rfl⟩ := List.mem_map.mp hd
    exact ⟨c, rfl, h3 c hc⟩
  refine forD_ind (I := fun ds e => ∃ x, e = [.d (.str w), x] ∧ ∀ d ∈ ds, ∃ c, d = .str ⟨#[c]⟩ ∧ 97 ≤ c ∧ c ≤ 122) (fun e he => ?_) (fun d ds e ih he => ?_) _ _ ⟨.un, rfl, hds⟩
  · obtain ⟨x, rfl, _⟩ := he
    simp
    exact hq
  · obtain ⟨x, rfl, hd⟩ := he
    obtain ⟨c, rfl, hc1, hc2⟩ := hd d List.mem_cons_self
    simp [leS_a hc1, leS_z hc2]
    exact ih _ ⟨_, rfl, fun d hd' => hd d (List.mem_cons_of_mem _ hd')⟩
def sp_is_table : SpD := fun as Qd _ => ∃ (n : Nat) (en : List (List Int)), as = [.d (.int 2), .d (.int n), .d (.tup (en.map signD))] ∧ n ≤ 3 ∧ en.length = 2 ^ n ∧ (∀ s ∈ en, sgOk s) ∧ Qd (.d (.bl true)) []
theorem ok_is_table (as : List Slot) (Qd Ed) (hl : as.length = 3) (h : sp_is_table as Qd Ed) : m_is_table sp_row_count sp_is_sign (dEnds as Qd) (as ++ List.replicate 2 .un) (dWish as Ed) := by
  obtain ⟨n, en, rfl, hn, hen, hs, hq⟩ := h
  unfold m_is_table
  have e1 : (0 : Int) ≤ n := by omega
  have e2 : (n : Int) ≤ 3 := by omega
  have hp : 2 ^ n ≤ 8 := by
    have hn' : n = 0 ∨ n = 1 ∨ n = 2 ∨ n = 3 := by omega
    rcases hn' with rfl | rfl | rfl | rfl <;> decide
  simp [e1, e2]
  refine ⟨n, rfl, hn, ?_⟩
  generalize 2 ^ n = P2 at hen hp
  have e3 : ¬ (16 : Int) < (P2 : Int) := by omega
  simp [e3, hen]
  have hds : ∀ d ∈ en.map signD, ∃ s, d = signD s ∧ sgOk s := fun d hd => by
    obtain ⟨s, hs', rfl⟩ := List.mem_map.mp hd
    exact ⟨s, rfl, hs s hs'⟩
  refine forD_ind (I := fun ds e => ∃ x, e = [.d (.int 2), .d (.int n), .d (.tup (en.map signD)), .d (.int P2), x] ∧ ∀ d ∈ ds, ∃ s, d = signD s ∧ sgOk s) (fun e he => ?_) (fun d ds e ih he => ?_) _ _ ⟨.un, rfl, hds⟩
  · obtain ⟨x, rfl, _⟩ := he
    simp
    exact hq
  · obtain ⟨x, rfl, hd⟩ := he
    obtain ⟨s, rfl, hs⟩ := hd d List.mem_cons_self
    have hne : ¬ s.length = 0 := by rcases hs with rfl | rfl | rfl <;> decide
    simp [signD]
    rw [if_neg (by simpa using hne)]
    refine ⟨s, rfl, hs, ?_⟩
    simp
    exact ih _ ⟨_, rfl, fun d hd' => hd d (List.mem_cons_of_mem _ hd')⟩
def sp_loose_table : SpD := fun as Qd _ => ∃ ts : List Tab, as = [.d (.tup (ts.map tabD))] ∧ ∀ x, isAdr x = false → Qd (.d x) []
theorem ok_loose_table (as : List Slot) (Qd Ed) (hl : as.length = 1) (h : sp_loose_table as Qd Ed) : m_loose_table (dEnds as Qd) (as ++ List.replicate 4 .un) (dWish as Ed) := by
  obtain ⟨ts, rfl, hq⟩ := h
  unfold m_loose_table
  simp
  have hds : ∀ d ∈ ts.map tabD, ∃ t, d = tabD t := fun d hd => by
    obtain ⟨t, _, rfl⟩ := List.mem_map.mp hd
    exact ⟨t, rfl⟩
  refine forD_ind (I := fun ds e => ∃ x1 x2 x3 x4, e = [.d (.tup (ts.map tabD)), x1, x2, x3, x4] ∧ ∀ d ∈ ds, ∃ t, d = tabD t) (fun e he => ?_) (fun d ds e ih he => ?_) _ _ ⟨.un, .un, .un, .un, rfl, hds⟩
  · obtain ⟨x1, x2, x3, x4, rfl, _⟩ := he
    simp
    exact hq _ rfl
  · obtain ⟨x1, x2, x3, x4, rfl, hd⟩ := he
    obtain ⟨t, rfl⟩ := hd d List.mem_cons_self
    simp [tabD]
    have hds2 : ∀ d ∈ t.en.map signD, ∃ s, d = signD s := fun d hd => by
      obtain ⟨s, _, rfl⟩ := List.mem_map.mp hd
      exact ⟨s, rfl⟩
    refine forD_ind (I := fun ds2 e => ∃ x4, e = [.d (.tup (ts.map tabD)), .d (.str t.nm), .d (.int t.pl), .d (.tup (t.en.map signD)), x4] ∧ ∀ d ∈ ds2, ∃ s, d = signD s) (fun e he => ?_) (fun d2 ds2 e ih2 he => ?_) _ _ ⟨x4, rfl, hds2⟩
    · obtain ⟨x4, rfl, _⟩ := he
      exact ih _ ⟨_, _, _, _, rfl, fun d hd' => hd d (List.mem_cons_of_mem _ hd')⟩
    · obtain ⟨x4, rfl, hd2⟩ := he
      obtain ⟨s, rfl⟩ := hd2 d2 List.mem_cons_self
      simp [signD]
      split
      · exact hq _ rfl
      · exact ih2 _ ⟨_, rfl, fun d hd' => hd2 d (List.mem_cons_of_mem _ hd')⟩
def sp_matrix_fault : SpD := fun as Qd _ => ∃ ts : List Tab, as = [.d (.int 2), .d (.tup [.int 1]), .d (.tup (ts.map tabD))] ∧ TabsOk ts ∧ Qd (.d .non) []
theorem ok_matrix_fault (as : List Slot) (Qd Ed) (hl : as.length = 3) (h : sp_matrix_fault as Qd Ed) : m_matrix_fault sp_is_sign sp_is_name sp_is_table (dEnds as Qd) (as ++ List.replicate 4 .un) (dWish as Ed) := by
  obtain ⟨ts, rfl, ok, hq⟩ := h
  unfold m_matrix_fault
  simp
  refine ⟨[1], rfl, .inr (.inl rfl), ?_⟩
  simp
  intro b hb
  refine forD_ind (I := fun ds e => ∃ x4 x5 x6 done rest, e = [.d (.int 2), .d (.tup [.int 1]), .d (.tup (ts.map tabD)), .own b (.lst ((done.map (·.nm)).map .str)), x4, x5, x6] ∧ ds = rest.map tabD ∧ done ++ rest = ts) (fun e he => ?_) (fun d ds e ih he => ?_) _ _ ⟨.un, .un, .un, [], ts, rfl, rfl, rfl⟩
  · obtain ⟨x4, x5, x6, done, rest, rfl, _, _⟩ := he
    simp
    exact hq
  · obtain ⟨x4, x5, x6, done, rest, rfl, hd, e⟩ := he
    cases rest with
    | nil => cases hd
    | cons t rest =>
      rw [List.map_cons] at hd
      obtain ⟨rfl, rfl⟩ := List.cons.inj hd
      have tok : TabOk t := ok.all t (by rw [← e]; simp)
      have hlen : done.length < 6 := by have := ok.len; rw [← e] at this; simp at this; omega
      have hnin : t.nm ∉ done.map (·.nm) := by
        have := ok.nd
        rw [← e, List.map_append, List.map_cons] at this
        have := (List.nodup_append.mp this).2.2
        exact fun z => this _ z _ List.mem_cons_self rfl
      simp [tabD, -List.map_map]
      have h6 : ¬ ((done.length : Int) = 6) := by omega
      simp [h6, -List.map_map]
      have hnin2 : ¬ ∃ x, x ∈ done ∧ x.nm = t.nm := fun ⟨x, hx, hn⟩ => hnin (by rw [← hn]; exact List.mem_map_of_mem hx)
      simp [hnin2, -List.map_map]
      refine ⟨t.nm, rfl, tok.nm, ?_⟩
      simp [-List.map_map]
      refine ⟨t.pl, t.en, rfl, tok.pl, tok.en, tok.sg, ?_⟩
      simp [-List.map_map]
      refine ⟨lt_size (by omega), ih _ ⟨.d (.str t.nm), .d (.int t.pl), .d (.tup (t.en.map signD)), done ++ [t], rest, ?_, rfl, by rw [List.append_assoc]; exact e⟩⟩
      rw [List.map_append, List.map_append]
      rfl
/-! ### the object -/
def plK (ts : List Tab) : List (Key × D) := ts.map fun t => (.inr t.nm, .int t.pl)
def enK (ts : List Tab) : List (Key × D) := ts.map fun t => (.inr t.nm, .tup (t.en.map signD))
theorem dPut_new {k : List (Key × D)} {key : Key} {d : D} (h : ∀ kv ∈ k, kv.1 ≠ key) : dPut k key d = k ++ [(key, d)] := by
  unfold dPut
  rw [if_neg]
  intro z
  obtain ⟨kv, hkv, hk⟩ := List.any_eq_true.mp z
  exact h kv hkv (of_decide_eq_true hk)
theorem fillP_eq : ∀ (ts : List Tab) (k : List (Key × D)), (∀ t ∈ ts, ∀ kv ∈ k, kv.1 ≠ .inr t.nm) → (ts.map (·.nm)).Nodup → fillP (ts.map tabD) k = k ++ plK ts
  | [], k, _, _ => by simp [fillP, plK]
  | t :: ts, k, h, nd => by
    have nd' : t.nm ∉ ts.map (·.nm) ∧ (ts.map (·.nm)).Nodup := by rw [List.map_cons, List.nodup_cons] at nd; exact nd
    show fillP (ts.map tabD) (dPut k (.inr t.nm) (.int t.pl)) = _
    rw [dPut_new (h t List.mem_cons_self), fillP_eq ts _ (fun u hu kv hkv => ?_) nd'.2]
    · simp [plK]
    · rcases List.mem_append.mp hkv with q | q
      · exact h u (List.mem_cons_of_mem _ hu) kv q
      · obtain rfl : kv = (.inr t.nm, .int t.pl) := by simpa using q
        intro z
        have z' : t.nm = u.nm := Sum.inr.inj z
        exact nd'.1 (by rw [z']; exact List.mem_map_of_mem hu)
theorem fillE_eq : ∀ (ts : List Tab) (k : List (Key × D)), (∀ t ∈ ts, ∀ kv ∈ k, kv.1 ≠ .inr t.nm) → (ts.map (·.nm)).Nodup → fillE (ts.map tabD) k = k ++ enK ts
  | [], k, _, _ => by simp [fillE, enK]
  | t :: ts, k, h, nd => by
    have nd' : t.nm ∉ ts.map (·.nm) ∧ (ts.map (·.nm)).Nodup := by rw [List.map_cons, List.nodup_cons] at nd; exact nd
    show fillE (ts.map tabD) (dPut k (.inr t.nm) (.tup (t.en.map signD))) = _
    rw [dPut_new (h t List.mem_cons_self), fillE_eq ts _ (fun u hu kv hkv => ?_) nd'.2]
    · simp [enK]
    · rcases List.mem_append.mp hkv with q | q
      · exact h u (List.mem_cons_of_mem _ hu) kv q
      · obtain rfl : kv = (.inr t.nm, .tup (t.en.map signD)) := by simpa using q
        intro z
        have z' : t.nm = u.nm := Sum.inr.inj z
        exact nd'.1 (by rw [z']; exact List.mem_map_of_mem hu)
theorem plK_get : ∀ {ts : List Tab} {t : Tab}, (ts.map (·.nm)).Nodup → t ∈ ts → dGet (plK ts) (.inr t.nm) = some (.int t.pl)
  | u :: ts, t, nd, ht => by
    have nd' : u.nm ∉ ts.map (·.nm) ∧ (ts.map (·.nm)).Nodup := by rw [List.map_cons, List.nodup_cons] at nd; exact nd
    unfold dGet plK
    rw [List.map_cons, List.find?_cons]
    rcases List.mem_cons.mp ht with rfl | ht
    · simp
    · have hne : ¬ u.nm = t.nm := fun z => nd'.1 (by rw [z]; exact List.mem_map_of_mem ht)
      have := plK_get nd'.2 ht
      unfold dGet plK at this
      simp [hne]
      simpa using this
def matF (ts : List Tab) (z : D) : List (Str × D) := [("size", .int 2), ("designated", .tup [.int 1]), ("tables", .tup (ts.map tabD)), ("names", .tup ((ts.map (·.nm)).map .str)), ("loose", z), ("_places", .dct (plK ts)), ("_entries", .dct (enK ts))]
def matD (c : Addr) (ts : List Tab) (z : D) : D := .obj c (matF ts z)
def sp_Matrix_init (c : Addr) : SpD := fun as Qd _ => ∃ (a : Addr) (ts : List Tab), as = [.own a (.obj c []), .d (.int 2), .d (.tup [.int 1]), .d (.tup (ts.map tabD))] ∧ TabsOk ts ∧ ∀ z, Qd (.d .non) [matD c ts z]
theorem ok_Matrix_init (c x : Addr) (as : List Slot) (Qd Ed) (hl : as.length = 4) (h : sp_Matrix_init c as Qd Ed) : m_Matrix_init c x sp_matrix_fault sp_loose_table (dEnds as Qd) (as ++ List.replicate 5 .un) (dWish as Ed) := by
  obtain ⟨a, ts, rfl, ok, hq⟩ := h
  unfold m_Matrix_init
  simp
  refine ⟨ts, rfl, ok, ?_⟩
  simp
  simp [putFD]
  refine lc_map rfl (fun d => match d with | .tup (w :: _) => w | _ => .non) (ts.map tabD) [] (fun d hd K hK => ?_) (by have := ok.len; simp; omega) ?_
  · obtain ⟨t, _, rfl⟩ := List.mem_map.mp hd
    simp [wipeE, tabD]
    exact hK _ (by simp [rstE])
  · have e1 : ([] ++ (ts.map tabD).map fun d => match d with | .tup (w :: _) => w | _ => D.non) = (ts.map (·.nm)).map D.str := by
      rw [List.nil_append, List.map_map, List.map_map]; rfl
    rw [e1]
    simp [putFD, -List.map_map]
    refine ⟨ts, rfl, fun z hz => ?_⟩
    simp [putFD, -List.map_map]
    refine ⟨a, _, ts.map tabD, rfl, rfl, fun d hd => ?_, by have := ok.len; simp; omega, by simp, by simp, by simp, by simp, ?_⟩
    · obtain ⟨t, _, rfl⟩ := List.mem_map.mp hd
      exact trivial
    · rw [fillP_eq ts [] (by simp) ok.nd, fillE_eq ts [] (by simp) ok.nd]
      simp [putFD, wipe3, -List.map_map]
      exact hq z
theorem lk_ne {f g : Str} {x : D} {r : List (Str × D)} (h : (g = f) = False) : List.lookup f ((g, x) :: r) = List.lookup f r := by
  have h' : (f == g) = false := by
    cases q : (f == g) with
    | false => rfl
    | true => exact absurd (eq_of_beq q).symm (by rw [h]; exact id)
  rw [List.lookup_cons, h']
theorem lk_eq {f : Str} {x : D} {r : List (Str × D)} : List.lookup f ((f, x) :: r) = some x := by
  rw [List.lookup_cons, beq_self_eq_true]
@[simp] theorem matF_places (ts z) : (matF ts z).lookup (Str.ofString "_places") = some (.dct (plK ts)) := by
  unfold matF
  rw [lk_ne (by simp), lk_ne (by simp), lk_ne (by simp), lk_ne (by simp), lk_ne (by simp), lk_eq]
@[simp] theorem matF_names (ts z) : (matF ts z).lookup (Str.ofString "names") = some (.tup ((ts.map (·.nm)).map .str)) := by
  unfold matF
  rw [lk_ne (by simp), lk_ne (by simp), lk_ne (by simp), lk_eq]
@[simp] theorem matF_meth (ts z) : (matF ts z).lookup (Str.ofString "places") = none := by
  unfold matF
  rw [lk_ne (eq_false (by decide +kernel)), lk_ne (eq_false (by decide +kernel)), lk_ne (eq_false (by decide +kernel)), lk_ne (eq_false (by decide +kernel)), lk_ne (eq_false (by decide +kernel)), lk_ne (eq_false (by decide +kernel)), lk_ne (eq_false (by decide +kernel))]
  rfl
def sp_Matrix_places (c : Addr) : SpD := fun as Qd _ => ∃ (ts : List Tab) (z : D) (t : Tab), as = [.d (matD c ts z), .d (.str t.nm)] ∧ TabsOk ts ∧ t ∈ ts ∧ Qd (.d (.int t.pl)) []
theorem ok_Matrix_places (c x : Addr) (as : List Slot) (Qd Ed) (hl : as.length = 2) (h : sp_Matrix_places c as Qd Ed) : m_Matrix_places c x (dEnds as Qd) (as ++ List.replicate 0 .un) (dWish as Ed) := by
  obtain ⟨ts, z, t, rfl, ok, ht, hq⟩ := h
  unfold m_Matrix_places
  have hg := plK_get ok.nd ht
  simp [matD, matF_places, oInA, oDIn, keyD, hg, oDGet]
  exact hq
end A
set_option maxHeartbeats 4000000
namespace A
open PySem L2 DL
@[simp] theorem kO_mat (c : Addr) (ts z) (Q) : kO c Q (matD c ts z) = Q (matF ts z) := by show (c = c ∧ _) = _; simp
/-! ### where a text is no formula -/
def tabOf (ts : List Tab) (w : Str) : Option Tab := ts.find? fun t => decide (t.nm = w)
def faultW (ts : List Tab) : List Str → Int → Int → Option Int
  | [], w, n => if 0 < w then some n else none
  | x :: r, w, n => if w = 0 then some n else if isL x = true then faultW ts r (w - 1) (n + 1) else match tabOf ts x with
    | some t => faultW ts r (w + t.pl - 1) (n + 1)
    | none => some n
def optD : Option Int → D
  | none => .non
  | some n => .int n
def spl (t : Str) : List Str := Txt.split t (Str.ofString " ")
theorem spl_len {t x : Str} (h : x ∈ spl t) : x.length ≤ t.length := PyProof.Rows.part_short h
def fault (ts : List Tab) (t : Str) : Option Int := faultW ts (spl t) 1 0
theorem tabOf_some {ts : List Tab} {w : Str} {t : Tab} (h : tabOf ts w = some t) : t ∈ ts ∧ t.nm = w := by
  unfold tabOf at h
  exact ⟨List.mem_of_find?_eq_some h, by simpa using List.find?_some h⟩
theorem tabOf_none {ts : List Tab} {w : Str} (h : tabOf ts w = none) : w ∉ ts.map (·.nm) := by
  unfold tabOf at h
  intro z
  obtain ⟨t, ht, rfl⟩ := List.mem_map.mp z
  have := List.find?_eq_none.mp h t ht
  simp at this
theorem sp_ne : ((Str.ofString " ").length == 0) = false := by decide
def sp_formula_fault (c : Addr) : SpD := fun as Qd _ => ∃ (ts : List Tab) (z : D) (t : Str), as = [.d (matD c ts z), .d (.str t)] ∧ TabsOk ts ∧ t.length ≤ 4000 ∧ Qd (.d (optD (fault ts t))) []
theorem ok_formula_fault (c : Addr) (as : List Slot) (Qd Ed) (hl : as.length = 2) (h : sp_formula_fault c as Qd Ed) : m_formula_fault c sp_is_letter (sp_Matrix_places c) (dEnds as Qd) (as ++ List.replicate 3 .un) (dWish as Ed) := by
  obtain ⟨ts, z, t, rfl, ok, ht, hq⟩ := h
  unfold m_formula_fault
  simp [-List.lookup_eq_none_iff, -List.map_map]
  refine ⟨by decide, by rw [sizeLine_eq]; omega, ?_⟩
  show forD _ _ _ _ ((spl t).map D.str) _
  refine forD_ind (I := fun ds e => ∃ (x4 : Slot) (w n : Int) (rest : List Str), e = [.d (matD c ts z), .d (.str t), .d (.int w), .d (.int n), x4] ∧ ds = rest.map .str ∧ (∀ x ∈ rest, x.length ≤ 4000) ∧ faultW ts rest w n = fault ts t) (fun e he => ?_) (fun d ds e ih he => ?_) _ _ ⟨.un, 1, 0, spl t, rfl, rfl, fun x hx => Nat.le_trans (spl_len hx) ht, rfl⟩
  · obtain ⟨x4, w, n, rest, rfl, hr, _, hf⟩ := he
    obtain rfl : rest = [] := by cases rest with | nil => rfl | cons _ _ => cases hr
    simp
    unfold faultW at hf
    split
    · rename_i h
      rw [if_pos h] at hf
      rw [← hf] at hq; exact hq
    · rename_i h
      rw [if_neg h] at hf
      rw [← hf] at hq; exact hq
  · obtain ⟨x4, w, n, rest, rfl, hr, hx, hf⟩ := he
    cases rest with
    | nil => cases hr
    | cons x rest =>
      rw [List.map_cons] at hr
      obtain ⟨rfl, rfl⟩ := List.cons.inj hr
      have hxl := hx x List.mem_cons_self
      have hx' : ∀ y ∈ rest, y.length ≤ 4000 := fun y hy => hx y (List.mem_cons_of_mem _ hy)
      unfold faultW at hf
      simp [-List.lookup_eq_none_iff, -List.map_map]
      by_cases hw : w = 0
      · rw [if_pos hw] at hf ⊢
        rw [← hf] at hq; exact hq
      · rw [if_neg hw] at hf ⊢
        refine ⟨x, rfl, hxl, ?_⟩
        simp [-List.lookup_eq_none_iff, -List.map_map]
        by_cases hL : isL x = true
        · rw [if_pos hL] at hf ⊢
          exact ih _ ⟨.d (.str x), w - 1, n + 1, rest, rfl, rfl, hx', hf⟩
        · rw [if_neg hL] at hf ⊢
          cases q : tabOf ts x with
          | none =>
            rw [q] at hf
            have hn := tabOf_none q
            rw [if_neg (by simpa using hn)]
            simp at hf
            rw [← hf] at hq; exact hq
          | some tb =>
            rw [q] at hf
            obtain ⟨h1, h2⟩ := tabOf_some q
            have hin : x ∈ ts.map (·.nm) := by rw [← h2]; exact List.mem_map_of_mem h1
            rw [if_pos (by simpa using hin)]
            refine ⟨ts, z, tb, by rw [h2], ok, h1, ?_⟩
            simp [-List.lookup_eq_none_iff, -List.map_map]
            exact ih _ ⟨.d (.str x), w + tb.pl - 1, n + 1, rest, rfl, rfl, hx', hf⟩
def sp_law_fault : SpD := fun as Qd _ => ∃ (ts : List Tab) (t : Str), as = [.d (.tup (ts.map tabD)), .d (.str t)] ∧ TabsOk ts ∧ t.length ≤ 4000 ∧ Qd (.d (optD (fault ts t))) []
theorem nm_notL {w : Str} (h : isNm w) : isL w = false := isL_len (by have := h.1; omega)
/-- the places that the tables give -/
def plOf (ts : List Tab) (x : Str) (p : Int) : Int := match tabOf ts x with
  | some t => t.pl
  | none => p
theorem plOf_nil (x p) : plOf [] x p = p := rfl
theorem tabOf_cons (t : Tab) (ts : List Tab) (x : Str) : tabOf (t :: ts) x = if t.nm = x then some t else tabOf ts x := by
  unfold tabOf
  rw [List.find?_cons]
  by_cases h : t.nm = x <;> simp [h]
theorem tabOf_not {ts : List Tab} {x : Str} (h : x ∉ ts.map (·.nm)) : tabOf ts x = none := by
  unfold tabOf
  rw [List.find?_eq_none]
  intro t ht z
  exact h (by rw [← of_decide_eq_true z]; exact List.mem_map_of_mem ht)
theorem ok_law_fault (as : List Slot) (Qd Ed) (hl : as.length = 2) (h : sp_law_fault as Qd Ed) : m_law_fault sp_is_letter (dEnds as Qd) (as ++ List.replicate 5 .un) (dWish as Ed) := by
  obtain ⟨ts, t, rfl, ok, ht, hq⟩ := h
  unfold m_law_fault
  simp [-List.lookup_eq_none_iff, -List.map_map]
  refine ⟨by decide, by rw [sizeLine_eq]; omega, ?_⟩
  show forD _ _ _ _ ((spl t).map D.str) _
  refine forD_ind (I := fun ds e => ∃ (x4 x5 x6 : Slot) (w n : Int) (rest : List Str), e = [.d (.tup (ts.map tabD)), .d (.str t), .d (.int w), .d (.int n), x4, x5, x6] ∧ ds = rest.map .str ∧ (∀ x ∈ rest, x.length ≤ 4000) ∧ faultW ts rest w n = fault ts t) (fun e he => ?_) (fun d ds e ih he => ?_) _ _ ⟨.un, .un, .un, 1, 0, spl t, rfl, rfl, fun x hx => Nat.le_trans (spl_len hx) ht, rfl⟩
  · obtain ⟨x4, x5, x6, w, n, rest, rfl, hr, _, hf⟩ := he
    obtain rfl : rest = [] := by cases rest with | nil => rfl | cons _ _ => cases hr
    simp
    unfold faultW at hf
    split
    · rename_i h
      rw [if_pos h] at hf
      rw [← hf] at hq; exact hq
    · rename_i h
      rw [if_neg h] at hf
      rw [← hf] at hq; exact hq
  · obtain ⟨x4, x5, x6, w, n, rest, rfl, hr, hx, hf⟩ := he
    cases rest with
    | nil => cases hr
    | cons x rest =>
      rw [List.map_cons] at hr
      obtain ⟨rfl, rfl⟩ := List.cons.inj hr
      have hxl := hx x List.mem_cons_self
      have hx' : ∀ y ∈ rest, y.length ≤ 4000 := fun y hy => hx y (List.mem_cons_of_mem _ hy)
      simp [-List.lookup_eq_none_iff, -List.map_map]
      refine ⟨x, rfl, hxl, ?_⟩
      simp [-List.lookup_eq_none_iff, -List.map_map]
      -- the inner loop
      have inner : ∀ (MD : MEnds) (W : WE) (p : Int) (x6 : Slot), (∀ x6, MD.nx [.d (.tup (ts.map tabD)), .d (.str t), .d (.int w), .d (.int n), .d (.str x), .d (.int (plOf ts x p)), x6]) → forD (mgN 6) (mIfS (mTest (mOpQ oEqA (mQE (mOpQ oIx (mQN 6) (mC (.int 0)))) (mPk 4))) (mSet 5 (mOpQ oIx (mQN 6) (mC (.int 1)))) mSkip) MD W (ts.map tabD) [.d (.tup (ts.map tabD)), .d (.str t), .d (.int w), .d (.int n), .d (.str x), .d (.int p), x6] := by
        intro MD W p x6 hn
        refine forD_ind (I := fun ds e => ∃ (x6 : Slot) (p' : Int) (rest : List Tab), e = [.d (.tup (ts.map tabD)), .d (.str t), .d (.int w), .d (.int n), .d (.str x), .d (.int p'), x6] ∧ ds = rest.map tabD ∧ (rest.map (·.nm)).Nodup ∧ plOf rest x p' = plOf ts x p) (fun e he => ?_) (fun d ds e ih he => ?_) _ _ ⟨x6, p, ts, rfl, rfl, ok.nd, rfl⟩
        · obtain ⟨x6, p', rest, rfl, hr, _, hp⟩ := he
          obtain rfl : rest = [] := by cases rest with | nil => rfl | cons _ _ => cases hr
          rw [plOf_nil] at hp
          rw [hp]
          exact hn x6
        · obtain ⟨x6, p', rest, rfl, hr, nd, hp⟩ := he
          cases rest with
          | nil => cases hr
          | cons tb rest =>
            rw [List.map_cons] at hr
            obtain ⟨rfl, rfl⟩ := List.cons.inj hr
            rw [List.map_cons, List.nodup_cons] at nd
            simp [-List.lookup_eq_none_iff, -List.map_map, tabD]
            by_cases hx : tb.nm = x
            · rw [if_pos hx]
              refine ih _ ⟨_, _, rest, rfl, rfl, nd.2, ?_⟩
              rw [← hp]
              unfold plOf
              rw [tabOf_cons, if_pos hx, tabOf_not (by rw [← hx]; exact nd.1)]
            · rw [if_neg hx]
              refine ih _ ⟨_, _, rest, rfl, rfl, nd.2, ?_⟩
              rw [← hp]
              unfold plOf
              rw [tabOf_cons, if_neg hx]
      unfold faultW at hf
      by_cases hL : isL x = true
      · have hnt : tabOf ts x = none := tabOf_not fun z => by
          obtain ⟨tb, htb, e⟩ := List.mem_map.mp z
          have := nm_notL (ok.all tb htb).nm
          rw [e, hL] at this
          cases this
        have hp0 : plOf ts x 0 = 0 := by unfold plOf; rw [hnt]
        rw [if_pos hL]
        refine inner _ _ _ _ fun x6 => ?_
        simp [-List.lookup_eq_none_iff, -List.map_map, hp0]
        by_cases hw : w = 0
        · rw [if_pos hw] at hf ⊢
          rw [← hf] at hq; exact hq
        · rw [if_neg hw] at hf ⊢
          rw [if_pos hL] at hf
          exact ih _ ⟨.d (.str x), .d (.int 0), x6, w - 1, n + 1, rest, rfl, rfl, hx', hf⟩
      · rw [if_neg hL]
        refine inner _ _ _ _ fun x6 => ?_
        simp [-List.lookup_eq_none_iff, -List.map_map]
        by_cases hw : w = 0
        · rw [if_pos hw] at hf ⊢
          rw [← hf] at hq; exact hq
        · rw [if_neg hw] at hf ⊢
          rw [if_neg hL] at hf
          cases q : tabOf ts x with
          | none =>
            rw [q] at hf
            have hp : plOf ts x (-1) = -1 := by unfold plOf; rw [q]
            rw [hp, if_pos (by omega)]
            simp at hf
            rw [← hf] at hq; exact hq
          | some tb =>
            rw [q] at hf
            have hp : plOf ts x (-1) = tb.pl := by unfold plOf; rw [q]
            rw [hp, if_neg (by omega)]
            exact ih _ ⟨.d (.str x), .d (.int tb.pl), x6, w + tb.pl - 1, n + 1, rest, rfl, rfl, hx', hf⟩
/-! ### questions about texts -/
def sp_is_formula (c : Addr) : SpD := fun as Qd _ => ∃ (ts : List Tab) (z : D) (x : D), as = [.d (matD c ts z), .d x] ∧ TabsOk ts ∧ (∃ n, tyD x = some n) ∧ (∀ t, x = .str t → t.length ≤ 4000) ∧ Qd (.d (.bl (match x with | .str t => (fault ts t).isNone | _ => false))) []
@[simp] theorem isNon_opt (o : Option Int) : isNon (optD o) = o.isNone := by cases o <;> rfl
@[simp] theorem isAdr_opt (o : Option Int) : isAdr (optD o) = false := by cases o <;> rfl
theorem ok_is_formula (c : Addr) (as : List Slot) (Qd Ed) (hl : as.length = 2) (h : sp_is_formula c as Qd Ed) : m_is_formula (sp_formula_fault c) (dEnds as Qd) (as ++ List.replicate 0 .un) (dWish as Ed) := by
  obtain ⟨ts, z, x, rfl, ok, ⟨n, hn⟩, hlen, hq⟩ := h
  unfold m_is_formula
  cases x with
  | str t =>
    simp
    refine ⟨ts, z, t, rfl, ok, hlen t rfl, ?_⟩
    simp
    exact hq
  | scr _ => cases hn
  | obj _ _ => cases hn
  | adr _ => cases hn
  | exc _ _ _ _ => cases hn
  | non => simp; exact hq
  | bl _ => simp; exact hq
  | int _ => simp; exact hq
  | tup _ => simp; exact hq
  | lst _ => simp; exact hq
  | dct _ => simp; exact hq
def sp_need_formula (c x : Addr) : SpD := fun as Qd Ed => ∃ (ts : List Tab) (z : D) (t : Str), as = [.d (matD c ts z), .d (.str t)] ∧ TabsOk ts ∧ t.length ≤ 4000 ∧ (match fault ts t with | none => Qd (.d .non) [] | some n => Ed x [(Str.ofString "place", .int n)] [])
theorem ok_need_formula (c x : Addr) (as : List Slot) (Qd Ed) (hl : as.length = 2) (h : sp_need_formula c x as Qd Ed) : m_need_formula x (sp_formula_fault c) (dEnds as Qd) (as ++ List.replicate 1 .un) (dWish as Ed) := by
  obtain ⟨ts, z, t, rfl, ok, ht, hq⟩ := h
  unfold m_need_formula
  simp
  refine ⟨ts, z, t, rfl, ok, ht, ?_⟩
  simp
  cases q : fault ts t with
  | none =>
    rw [q] at hq
    simp
    exact hq
  | some n =>
    rw [q] at hq
    simp [optD]
    exact hq
def sp_law_needed (c : Addr) : SpD := fun as Qd _ => ∃ (ts : List Tab) (z : D) (t : Str), as = [.d (matD c ts z), .d (.str t)] ∧ TabsOk ts ∧ t.length ≤ 4000 ∧ Qd (.d (.tup [.bl true, optD (fault ts t)])) []
theorem ok_law_needed (c x : Addr) (as : List Slot) (Qd Ed) (hl : as.length = 2) (h : sp_law_needed c as Qd Ed) : m_law_needed x (sp_need_formula c x) (dEnds as Qd) (as ++ List.replicate 1 .un) (dWish as Ed) := by
  obtain ⟨ts, z, t, rfl, ok, ht, hq⟩ := h
  unfold m_law_needed
  simp
  refine ⟨ts, z, t, rfl, ok, ht, ?_⟩
  cases q : fault ts t with
  | none =>
    rw [q] at hq
    simp
    exact hq
  | some n =>
    rw [q] at hq
    simp [kX]
    exact hq
def sp_law_same_integer : SpD := fun as Qd _ => ∃ o : Option Int, as = [.d (optD o), .d (optD o)] ∧ Qd (.d (.bl true)) []
theorem ok_law_same_integer (as : List Slot) (Qd Ed) (hl : as.length = 2) (h : sp_law_same_integer as Qd Ed) : m_law_same_integer (dEnds as Qd) (as ++ List.replicate 0 .un) (dWish as Ed) := by
  obtain ⟨o, rfl, hq⟩ := h
  unfold m_law_same_integer
  cases o with
  | none => simp [optD]; exact hq
  | some n => simp [optD]; exact hq
def sp_first_word : SpD := fun as Qd _ => ∃ t w : Str, as = [.d (.str t)] ∧ t.length ≤ 4000 ∧ (spl t)[0]? = some w ∧ Qd (.d (.str w)) []
theorem ok_first_word (as : List Slot) (Qd Ed) (hl : as.length = 1) (h : sp_first_word as Qd Ed) : m_first_word (dEnds as Qd) (as ++ List.replicate 0 .un) (dWish as Ed) := by
  obtain ⟨t, w, rfl, ht, hw, hq⟩ := h
  unfold m_first_word
  simp
  refine ⟨by decide, by rw [sizeLine_eq]; omega, .str w, ?_, hq⟩
  show atI ((spl t).map D.str) ((0 : Nat) : Int) = _
  rw [DL.atI_nat, List.getElem?_map, hw]
  rfl
def keyF (k : Int) (t : Str) : D := .tup [.int k, .str t]
def sp_formula_order : SpD := fun as Qd _ => ∃ t : Str, as = [.d (.str t)] ∧ t.length ≤ 4000 ∧ Qd (.d (keyF ((spl t).length - 1) t)) []
theorem count_spl (t : Str) : Txt.count t (Str.ofString " ") = ((spl t).length : Int) - 1 := by
  have h1 := PyProof.Rows.split_len t 32
  have h2 := PyProof.Rows.count_cnt t 32
  have e : (Str.ofString " ") = ⟨#[32]⟩ := by decide
  unfold spl
  rw [e, h2, h1]
  omega
theorem ok_formula_order (as : List Slot) (Qd Ed) (hl : as.length = 1) (h : sp_formula_order as Qd Ed) : m_formula_order (dEnds as Qd) (as ++ List.replicate 0 .un) (dWish as Ed) := by
  obtain ⟨t, rfl, ht, hq⟩ := h
  unfold m_formula_order
  simp
  rw [count_spl]
  exact hq
def sp_law_order : SpD := fun as Qd _ => ∃ t : Str, as = [.d (.str t)] ∧ t.length ≤ 4000 ∧ Qd (.d (keyF (spl t).length t)) []
theorem ok_law_order (as : List Slot) (Qd Ed) (hl : as.length = 1) (h : sp_law_order as Qd Ed) : m_law_order (dEnds as Qd) (as ++ List.replicate 0 .un) (dWish as Ed) := by
  obtain ⟨t, rfl, ht, hq⟩ := h
  unfold m_law_order
  simp
  exact ⟨by decide, by rw [sizeLine_eq]; omega, hq⟩
end A
set_option maxHeartbeats 4000000
namespace A
open PySem L2 DL
/-! ### formulas as trees -/
inductive Tm where
  | nd (w : Str) (as : List Tm)
mutual
def words : Tm → List Str
  | .nd w as => w :: wordsL as
def wordsL : List Tm → List Str
  | [] => []
  | a :: r => words a ++ wordsL r
end
mutual
def Wf (ts : List Tab) : Tm → Prop
  | .nd w as => ((isChr w ∧ as = []) ∨ ∃ t, t ∈ ts ∧ t.nm = w ∧ as.length = t.pl) ∧ WfL ts as
def WfL (ts : List Tab) : List Tm → Prop
  | [] => True
  | a :: r => Wf ts a ∧ WfL ts r
end
def spc : Str := Str.ofString " "
def text (t : Tm) : Str := Txt.join spc (words t)
theorem tabOf_mem : ∀ {ts : List Tab} {t : Tab}, (ts.map (·.nm)).Nodup → t ∈ ts → tabOf ts t.nm = some t
  | u :: ts, t, nd, ht => by
    have nd' : u.nm ∉ ts.map (·.nm) ∧ (ts.map (·.nm)).Nodup := by rw [List.map_cons, List.nodup_cons] at nd; exact nd
    rw [tabOf_cons]
    rcases List.mem_cons.mp ht with rfl | ht
    · rw [if_pos rfl]
    · rw [if_neg fun z => nd'.1 (by rw [z]; exact List.mem_map_of_mem ht)]
      exact tabOf_mem nd'.2 ht
theorem isChr_isL {w : Str} (h : isChr w) : isL w = true := by
  obtain ⟨c, rfl, h1, h2⟩ := h
  rw [isL_c]; simp [h1, h2]
theorem words_ne (t : Tm) : words t ≠ [] := by cases t; simp [words]
theorem faultW_cons (ts x r w n) : faultW ts (x :: r) w n = if w = 0 then some n else if isL x = true then faultW ts r (w - 1) (n + 1) else match tabOf ts x with
    | some t => faultW ts r (w + t.pl - 1) (n + 1)
    | none => some n := rfl
mutual
theorem fault_t {ts : List Tab} (ok : TabsOk ts) : ∀ (t : Tm), Wf ts t → ∀ (rest : List Str) (w n : Int), 1 ≤ w → faultW ts (words t ++ rest) w n = faultW ts rest (w - 1) (n + (words t).length)
  | .nd x as, h, rest, w, n, hw => by
    obtain ⟨hx, has⟩ := h
    show faultW ts (x :: (wordsL as ++ rest)) w n = _
    rw [faultW_cons, if_neg (by omega)]
    rcases hx with ⟨hc, rfl⟩ | ⟨t, ht, rfl, hl⟩
    · rw [if_pos (isChr_isL hc)]
      show faultW ts (wordsL [] ++ rest) (w - 1) (n + 1) = faultW ts rest (w - 1) (n + ((words (.nd x [])).length : Int))
      rfl
    · rw [if_neg (by rw [nm_notL (ok.all t ht).nm]; simp), tabOf_mem ok.nd ht]
      simp only
      have e := fault_L ok as has rest (w - 1) (n + 1) (by omega)
      rw [show w + (t.pl : Int) - 1 = (w - 1) + (as.length : Int) by rw [hl]; omega, e]
      congr 1
      show n + 1 + ((wordsL as).length : Int) = n + ((t.nm :: wordsL as).length : Int)
      rw [List.length_cons]; omega
theorem fault_L {ts : List Tab} (ok : TabsOk ts) : ∀ (as : List Tm), WfL ts as → ∀ (rest : List Str) (w n : Int), 0 ≤ w → faultW ts (wordsL as ++ rest) (w + as.length) n = faultW ts rest w (n + (wordsL as).length)
  | [], _, rest, w, n, hw => by simp [wordsL]
  | a :: r, ⟨ha, hr⟩, rest, w, n, hw => by
    show faultW ts ((words a ++ wordsL r) ++ rest) (w + ((a :: r).length : Int)) n = _
    rw [List.append_assoc, fault_t ok a ha _ _ _ (by rw [List.length_cons]; omega)]
    rw [show w + (((a :: r).length : Nat) : Int) - 1 = w + (r.length : Int) by rw [List.length_cons]; omega, fault_L ok r hr _ _ _ hw]
    congr 1
    show _ = n + ((words a ++ wordsL r).length : Int)
    rw [List.length_append]; omega
end
def okW (w : Str) : Prop := 1 ≤ w.length ∧ w.length ≤ 8 ∧ ∀ c ∈ w.cps.toList, 97 ≤ c ∧ c ≤ 122
theorem okW_chr {w : Str} (h : isChr w) : okW w := by
  obtain ⟨c, rfl, h1, h2⟩ := h
  exact ⟨Nat.le_refl _, (by show 1 ≤ 8; omega), fun d hd => by
    have : d = c := by simpa using hd
    subst this; exact ⟨h1, h2⟩⟩
theorem okW_nm {w : Str} (h : isNm w) : okW w := ⟨by have := h.1; omega, h.2.1, h.2.2⟩
mutual
theorem words_ok {ts : List Tab} (ok : TabsOk ts) : ∀ (t : Tm), Wf ts t → ∀ x ∈ words t, okW x
  | .nd x as, ⟨hx, has⟩, y, hy => by
    rcases List.mem_cons.mp (show y ∈ x :: wordsL as from hy) with rfl | hy
    · rcases hx with ⟨hc, _⟩ | ⟨t, ht, rfl, _⟩
      · exact okW_chr hc
      · exact okW_nm (ok.all t ht).nm
    · exact wordsL_ok ok as has y hy
theorem wordsL_ok {ts : List Tab} (ok : TabsOk ts) : ∀ (as : List Tm), WfL ts as → ∀ x ∈ wordsL as, okW x
  | [], _, y, hy => by simp [wordsL] at hy
  | a :: r, ⟨ha, hr⟩, y, hy => by
    rcases List.mem_append.mp (show y ∈ words a ++ wordsL r from hy) with hy | hy
    · exact words_ok ok a ha y hy
    · exact wordsL_ok ok r hr y hy
end
theorem spl_join {ws : List Str} (hne : ws ≠ []) (h : ∀ x ∈ ws, okW x) : spl (Txt.join spc ws) = ws := by
  unfold spl spc
  refine TL.split_join (s := 32) (S := []) (by decide) (by decide +kernel) hne fun p hp z => ?_
  have := (h p hp).2.2 32 z
  omega
theorem spl_text {ts : List Tab} (ok : TabsOk ts) {t : Tm} (h : Wf ts t) : spl (text t) = words t := spl_join (words_ne t) (words_ok ok t h)
theorem fault_text {ts : List Tab} (ok : TabsOk ts) {t : Tm} (h : Wf ts t) : fault ts (text t) = none := by
  unfold fault
  rw [spl_text ok h]
  have := fault_t ok t h [] 1 0 (by omega)
  rw [List.append_nil] at this
  rw [this]
  rfl
/-! ### joined texts -/
theorem join_one (w : Str) : Txt.join spc [w] = w := by rw [TL.join_eq]; rfl
theorem join_cons (w x : Str) (r : List Str) : Txt.join spc (w :: x :: r) = w ++ spc ++ Txt.join spc (x :: r) := by rw [TL.join_eq, TL.join_eq]; rfl
theorem str_app_assoc (a b c : Str) : a ++ b ++ c = a ++ (b ++ c) := by
  have : ∀ x y : Str, x ++ y = ⟨x.cps ++ y.cps⟩ := fun _ _ => rfl
  simp [this]
theorem join_app {ws vs : List Str} (hw : ws ≠ []) (hv : vs ≠ []) : Txt.join spc (ws ++ vs) = Txt.join spc ws ++ spc ++ Txt.join spc vs := by
  induction ws with
  | nil => exact absurd rfl hw
  | cons w r ih =>
    cases r with
    | nil =>
      cases vs with
      | nil => exact absurd rfl hv
      | cons v vs => rw [join_one]; exact join_cons w v vs
    | cons x r =>
      rw [join_cons, List.cons_append, List.cons_append, join_cons]
      rw [show x :: (r ++ vs) = (x :: r) ++ vs from rfl, ih (by simp)]
      simp only [str_app_assoc]
theorem text_nd (w : Str) (as : List Tm) : text (.nd w as) = Txt.join spc (w :: as.map text) := by
  have key : ∀ (as : List Tm) (w : Str), Txt.join spc (w :: wordsL as) = Txt.join spc (w :: as.map text) := by
    intro as
    induction as with
    | nil => intro w; rfl
    | cons a r ih =>
      intro w
      have e1 : Txt.join spc (w :: (words a ++ wordsL r)) = w ++ spc ++ Txt.join spc (words a ++ wordsL r) := by
        have := join_app (ws := [w]) (vs := words a ++ wordsL r) (by simp) (by simp [words_ne])
        rw [join_one] at this
        exact this
      show Txt.join spc (w :: (words a ++ wordsL r)) = _
      rw [e1, List.map_cons, join_cons, ← ih (text a)]
      congr 1
      cases hr : wordsL r with
      | nil =>
        rw [List.append_nil, join_one]; rfl
      | cons v vs =>
        rw [join_app (words_ne a) (by simp), join_cons]; rfl
  exact key as w
/-! ### the stack that all_parts keeps -/
def insK (K : List Str) (x : Str) : List Str := if x ∈ K then K else K ++ [x]
def popN : Nat → Str → List Str → Str × List Str
  | 0, p, S => (p, S)
  | n + 1, p, S => popN n (p ++ spc ++ (S.getLast?.getD spc)) S.dropLast
def plN (ts : List Tab) (w : Str) : Nat := match tabOf ts w with
  | some t => t.pl
  | none => 0
def stepP (ts : List Tab) (SK : List Str × List Str) (w : Str) : List Str × List Str :=
  let r := if isL w = true then (w, SK.1) else popN (plN ts w) w SK.1
  (r.2 ++ [r.1], insK SK.2 r.1)
mutual
def prT : Tm → List Str
  | .nd w as => prL as ++ [text (.nd w as)]
def prL : List Tm → List Str
  | [] => []
  | a :: r => prL r ++ prT a
end
mutual
theorem prT_len : ∀ t : Tm, (prT t).length = (words t).length
  | .nd w as => by show (prL as ++ [_]).length = (w :: wordsL as).length; rw [List.length_append, prL_len as]; rfl
theorem prL_len : ∀ as : List Tm, (prL as).length = (wordsL as).length
  | [] => rfl
  | a :: r => by show (prL r ++ prT a).length = (words a ++ wordsL r).length; rw [List.length_append, List.length_append, prL_len r, prT_len a]; omega
end
theorem mem_prL : ∀ {as : List Tm} {x : Str}, x ∈ prL as ↔ ∃ a ∈ as, x ∈ prT a
  | [], x => by simp [prL]
  | a :: r, x => by
    show x ∈ prL r ++ prT a ↔ _
    rw [List.mem_append, mem_prL (as := r)]
    constructor
    · rintro (⟨b, hb, h⟩ | h)
      · exact ⟨b, List.mem_cons_of_mem _ hb, h⟩
      · exact ⟨a, List.mem_cons_self, h⟩
    · rintro ⟨b, hb, h⟩
      rcases List.mem_cons.mp hb with rfl | hb
      · exact .inr h
      · exact .inl ⟨b, hb, h⟩
theorem join_head (w x : Str) (r : List Str) : Txt.join spc ((w ++ spc ++ x) :: r) = w ++ spc ++ Txt.join spc (x :: r) := by
  cases r with
  | nil => rw [join_one, join_one]
  | cons y r => rw [join_cons, join_cons]; simp only [str_app_assoc]
theorem popN_args : ∀ (as : List Tm) (p : Str) (S : List Str), popN as.length p (S ++ as.reverse.map text) = (Txt.join spc (p :: as.map text), S)
  | [], p, S => by simp [popN, join_one]
  | a :: r, p, S => by
    show popN r.length (p ++ spc ++ ((S ++ (a :: r).reverse.map text).getLast?.getD spc)) (S ++ (a :: r).reverse.map text).dropLast = _
    have e : S ++ (a :: r).reverse.map text = (S ++ r.reverse.map text) ++ [text a] := by simp
    rw [e, List.getLast?_concat, List.dropLast_concat]
    show popN r.length (p ++ spc ++ text a) (S ++ r.reverse.map text) = _
    rw [popN_args r, join_head, List.map_cons, join_cons]
mutual
theorem stack_t {ts : List Tab} (ok : TabsOk ts) : ∀ (t : Tm), Wf ts t → ∀ (S K : List Str), (words t).reverse.foldl (stepP ts) (S, K) = (S ++ [text t], (prT t).foldl insK K)
  | .nd x as, ⟨hx, has⟩, S, K => by
    show (x :: wordsL as).reverse.foldl (stepP ts) (S, K) = _
    rw [List.reverse_cons, List.foldl_append, stack_L ok as has S K]
    show stepP ts (S ++ as.reverse.map text, (prL as).foldl insK K) x = (S ++ [text (.nd x as)], (prL as ++ [text (.nd x as)]).foldl insK K)
    rw [List.foldl_append]
    unfold stepP
    rcases hx with ⟨hc, rfl⟩ | ⟨t, ht, rfl, hl⟩
    · simp only [isChr_isL hc, if_true]
      have e : text (.nd x []) = x := by rw [text_nd]; exact join_one x
      rw [e]
      simp
    · have hL := nm_notL (ok.all t ht).nm
      simp only [hL]
      have hp : plN ts t.nm = as.length := by unfold plN; rw [tabOf_mem ok.nd ht, hl]
      rw [hp, popN_args, ← text_nd]
      simp
theorem stack_L {ts : List Tab} (ok : TabsOk ts) : ∀ (as : List Tm), WfL ts as → ∀ (S K : List Str), (wordsL as).reverse.foldl (stepP ts) (S, K) = (S ++ as.reverse.map text, (prL as).foldl insK K)
  | [], _, S, K => by simp [wordsL, prL]
  | a :: r, ⟨ha, hr⟩, S, K => by
    show (words a ++ wordsL r).reverse.foldl (stepP ts) (S, K) = (S ++ (a :: r).reverse.map text, (prL r ++ prT a).foldl insK K)
    rw [List.reverse_append, List.foldl_append, stack_L ok r hr S K, stack_t ok a ha, List.foldl_append]
    simp
end
theorem mem_insK {K : List Str} {x y : Str} : y ∈ insK K x ↔ y ∈ K ∨ y = x := by
  unfold insK
  split
  · rename_i h
    constructor
    · exact .inl
    · rintro (h1 | rfl)
      · exact h1
      · exact h
  · simp
theorem nodup_insK {K : List Str} {x : Str} (h : K.Nodup) : (insK K x).Nodup := by
  unfold insK
  split
  · exact h
  · rename_i hx
    rw [List.nodup_append]
    exact ⟨h, by simp, fun a ha b hb e => hx (by simp at hb; rw [← hb, ← e]; exact ha)⟩
theorem mem_insAll {y : Str} : ∀ {xs K : List Str}, y ∈ xs.foldl insK K ↔ y ∈ K ∨ y ∈ xs
  | [], K => by simp
  | x :: xs, K => by
    rw [List.foldl_cons, mem_insAll, mem_insK, List.mem_cons, or_assoc]
theorem nodup_insAll : ∀ {xs K : List Str}, K.Nodup → (xs.foldl insK K).Nodup
  | [], _, h => h
  | x :: xs, K, h => nodup_insAll (xs := xs) (K := insK K x) (nodup_insK h)
/-! ### the arguments -/
def argFin (s : List Str × List Str × Int) : List Str × List Str × Int := if s.2.2 = 0 then (s.1 ++ [Txt.join spc s.2.1], [], 1) else s
def argStep (ts : List Tab) (s : List Str × List Str × Int) (x : Str) : List Str × List Str × Int :=
  argFin (s.1, s.2.1 ++ [x], if isL x = true then s.2.2 - 1 else s.2.2 + plN ts x - 1)
theorem argStep_eq (ts F C w x) : argStep ts (F, C, w) x = argFin (F, C ++ [x], if isL x = true then w - 1 else w + plN ts x - 1) := rfl
theorem argFin_ne {F C : List Str} {w : Int} (h : w ≠ 0) : argFin (F, C, w) = (F, C, w) := if_neg h
mutual
theorem arg_t {ts : List Tab} (ok : TabsOk ts) : ∀ (t : Tm), Wf ts t → ∀ (F C : List Str) (w : Int), 1 ≤ w → (words t).foldl (argStep ts) (F, C, w) = argFin (F, C ++ words t, w - 1)
  | .nd x as, ⟨hx, has⟩, F, C, w, hw => by
    show (wordsL as).foldl (argStep ts) (argStep ts (F, C, w) x) = argFin (F, C ++ (x :: wordsL as), w - 1)
    rw [argStep_eq]
    rcases hx with ⟨hc, rfl⟩ | ⟨t, ht, rfl, hl⟩
    · simp only [isChr_isL hc, if_true]
      show argFin (F, C ++ [x], w - 1) = _
      rfl
    · have hL := nm_notL (ok.all t ht).nm
      have hp : plN ts t.nm = as.length := by unfold plN; rw [tabOf_mem ok.nd ht, hl]
      simp only [hL, hp]
      by_cases hn : as = []
      · subst hn
        show argFin (F, C ++ [t.nm], _) = argFin (F, C ++ [t.nm], _)
        congr 3
        simp
      · have hlen : 1 ≤ as.length := by cases as with | nil => exact absurd rfl hn | cons _ _ => simp
        simp only [Bool.false_eq_true, if_false]
        rw [argFin_ne (by omega)]
        have := arg_L ok as has hn F (C ++ [t.nm]) (w - 1) (by omega)
        rw [show w - 1 + (as.length : Int) = w + (as.length : Int) - 1 by omega] at this
        rw [this, List.append_assoc]
        rfl
theorem arg_L {ts : List Tab} (ok : TabsOk ts) : ∀ (as : List Tm), WfL ts as → as ≠ [] → ∀ (F C : List Str) (w : Int), 0 ≤ w → (wordsL as).foldl (argStep ts) (F, C, w + as.length) = argFin (F, C ++ wordsL as, w)
  | [], _, h, _, _, _, _ => absurd rfl h
  | a :: r, ⟨ha, hr⟩, _, F, C, w, hw => by
    show (words a ++ wordsL r).foldl (argStep ts) (F, C, w + ((a :: r).length : Int)) = argFin (F, C ++ (words a ++ wordsL r), w)
    rw [List.foldl_append, arg_t ok a ha _ _ _ (by rw [List.length_cons]; omega)]
    rw [show w + (((a :: r).length : Nat) : Int) - 1 = w + (r.length : Int) by rw [List.length_cons]; omega]
    by_cases hn : r = []
    · subst hn
      simp [wordsL]
    · have hlen : 1 ≤ r.length := by cases r with | nil => exact absurd rfl hn | cons _ _ => simp
      rw [argFin_ne (by omega), arg_L ok r hr hn _ _ _ hw, List.append_assoc]
end
theorem arg_top {ts : List Tab} (ok : TabsOk ts) : ∀ (as : List Tm), WfL ts as → ∀ F : List Str, (wordsL as).foldl (argStep ts) (F, [], 1) = (F ++ as.map text, [], 1)
  | [], _, F => by simp [wordsL]
  | a :: r, ⟨ha, hr⟩, F => by
    show (words a ++ wordsL r).foldl (argStep ts) (F, [], 1) = _
    rw [List.foldl_append, arg_t ok a ha _ _ _ (by omega)]
    show (wordsL r).foldl (argStep ts) (argFin (F, [] ++ words a, 1 - 1)) = _
    have : argFin (F, [] ++ words a, 1 - 1) = (F ++ [text a], [], 1) := by unfold argFin; rfl
    rw [this, arg_top ok r hr]
    simp
end A
set_option maxHeartbeats 4000000
namespace A
open PySem L2 DL
def args : Tm → List Tm
  | .nd _ as => as
mutual
theorem words_cls {ts : List Tab} : ∀ (t : Tm), Wf ts t → ∀ x ∈ words t, isL x = true ∨ ∃ tb ∈ ts, tb.nm = x
  | .nd w as, ⟨hx, has⟩, x, h => by
    rcases List.mem_cons.mp (show x ∈ w :: wordsL as from h) with rfl | h
    · rcases hx with ⟨hc, _⟩ | ⟨tb, htb, e, _⟩
      · exact .inl (isChr_isL hc)
      · exact .inr ⟨tb, htb, e⟩
    · exact wordsL_cls as has x h
theorem wordsL_cls {ts : List Tab} : ∀ (as : List Tm), WfL ts as → ∀ x ∈ wordsL as, isL x = true ∨ ∃ tb ∈ ts, tb.nm = x
  | [], _, x, h => by simp [wordsL] at h
  | a :: r, ⟨ha, hr⟩, x, h => by
    rcases List.mem_append.mp (show x ∈ words a ++ wordsL r from h) with h | h
    · exact words_cls a ha x h
    · exact wordsL_cls r hr x h
end
theorem len_app (a b : Str) : (a ++ b).length = a.length + b.length := by rw [len_eq, cps_app, List.length_append, ← len_eq, ← len_eq]
theorem spc_len : spc.length = 1 := by decide
theorem join_len : ∀ ws : List Str, (∀ x ∈ ws, x.length ≤ 8) → (Txt.join spc ws).length ≤ 9 * ws.length
  | [], _ => by rw [show Txt.join spc [] = Str.ofString "" by rw [TL.join_eq]; rfl]; decide
  | [w], h => by rw [join_one]; have := h w List.mem_cons_self; simp; omega
  | w :: x :: r, h => by
    rw [join_cons, len_app, len_app, spc_len]
    have h1 := h w List.mem_cons_self
    have h2 := join_len (x :: r) fun y hy => h y (List.mem_cons_of_mem _ hy)
    simp only [List.length_cons] at h2 ⊢
    omega
theorem text_len {ts : List Tab} (ok : TabsOk ts) {t : Tm} (h : Wf ts t) : (text t).length ≤ 9 * (words t).length := join_len _ fun x hx => (words_ok ok t h x hx).2.1
theorem sum_le {ws : List Str} {m : Nat} (h : ∀ x ∈ ws, x.length ≤ m) : (ws.map (·.length)).sum ≤ m * ws.length := by
  induction ws with
  | nil => simp
  | cons w r ih =>
    have h1 := h w List.mem_cons_self
    have h2 := ih fun y hy => h y (List.mem_cons_of_mem _ hy)
    simp only [List.map_cons, List.sum_cons, List.length_cons]
    rw [Nat.mul_add]
    omega
theorem cutD_1 (x : D) (r : List D) : cutD (x :: r) (some 1) none = r := by
  unfold cutD
  have e1 : HT.sIx (x :: r).length 0 (some 1) = 1 := by
    unfold HT.sIx
    simp
  have e2 : HT.sIx (x :: r).length (x :: r).length none = (x :: r).length := by
    unfold HT.sIx
    simp
  rw [e1, e2]
  simp
def sp_formula_arguments (c : Addr) : SpD := fun as Qd _ => ∃ (ts : List Tab) (z : D) (t : Tm), as = [.d (matD c ts z), .d (.str (text t))] ∧ TabsOk ts ∧ Wf ts t ∧ (words t).length ≤ 100 ∧ Qd (.d (.tup (((args t).map text).map .str))) []
theorem plN_mem {ts : List Tab} (ok : TabsOk ts) {tb : Tab} (h : tb ∈ ts) : plN ts tb.nm = tb.pl := by unfold plN; rw [tabOf_mem ok.nd h]
theorem ok_formula_arguments (c : Addr) (as : List Slot) (Qd Ed) (hl : as.length = 2) (h : sp_formula_arguments c as Qd Ed) : m_formula_arguments c sp_is_letter (sp_Matrix_places c) (dEnds as Qd) (as ++ List.replicate 4 .un) (dWish as Ed) := by
  obtain ⟨ts, z, t, rfl, ok, wf, hlen, hq⟩ := h
  unfold m_formula_arguments
  have htl := text_len ok wf
  simp [-List.lookup_eq_none_iff, -List.map_map]
  intro b hb b' hb'
  have hws := words_ok ok t wf
  have hcl := words_cls t wf
  refine ⟨by decide, by rw [sizeLine_eq]; omega, ?_⟩
  have esp : Txt.split (text t) (Str.ofString " ") = words t := spl_text ok wf
  rw [esp]
  obtain ⟨w0, as0⟩ := t
  have ew : (words (.nd w0 as0)).map D.str = .str w0 :: (wordsL as0).map D.str := rfl
  rw [ew, cutD_1]
  have htop := arg_top ok as0 wf.2 []
  have hsub : ∀ x ∈ wordsL as0, x ∈ words (.nd w0 as0) := fun x hx => List.mem_cons_of_mem _ hx
  have hlw : (wordsL as0).length ≤ 100 := by have : (words (.nd w0 as0)).length = (wordsL as0).length + 1 := rfl; omega
  refine forD_ind (I := fun ds e => ∃ (x5 : Slot) (c3 : Addr) (F C : List Str) (w : Int) (rest : List Str), e = [.d (matD c ts z), .d (.str (text (.nd w0 as0))), .own b (.lst (F.map .str)), .own c3 (.lst (C.map .str)), .d (.int w), x5] ∧ ds = rest.map .str ∧ (∀ x ∈ rest, x ∈ wordsL as0) ∧ (∀ x ∈ C, x ∈ wordsL as0) ∧ F.length + C.length + rest.length ≤ 200 ∧ rest.foldl (argStep ts) (F, C, w) = ([] ++ as0.map text, [], 1)) (fun e he => ?_) (fun d ds e ih he => ?_) _ _ ⟨.un, b', [], [], 1, wordsL as0, rfl, rfl, fun x hx => hx, by simp, by simp; omega, htop⟩
  · obtain ⟨x5, c3, F, C, w, rest, rfl, hr, _, _, _, hf⟩ := he
    obtain rfl : rest = [] := by cases rest with | nil => rfl | cons _ _ => cases hr
    simp at hf
    obtain ⟨rfl, _, _⟩ := hf
    simp [-List.lookup_eq_none_iff, -List.map_map]
    exact hq
  · obtain ⟨x5, c3, F, C, w, rest, rfl, hr, hmem, hC, hL, hf⟩ := he
    cases rest with
    | nil => cases hr
    | cons x rest =>
      rw [List.map_cons] at hr
      obtain ⟨rfl, rfl⟩ := List.cons.inj hr
      have hx := hsub x (hmem x List.mem_cons_self)
      have hx8 := (hws x hx).2.1
      have hmem' : ∀ y ∈ rest, y ∈ wordsL as0 := fun y hy => hmem y (List.mem_cons_of_mem _ hy)
      simp only [List.length_cons] at hL
      rw [List.foldl_cons, argStep_eq] at hf
      simp [-List.lookup_eq_none_iff, -List.map_map]
      refine ⟨lt_size (by omega), x, rfl, by omega, ?_⟩
      have hC' : ∀ y ∈ C ++ [x], y ∈ wordsL as0 := fun y hy => by
        rcases List.mem_append.mp hy with hy | hy
        · exact hC y hy
        · obtain rfl : y = x := by simpa using hy
          exact hmem y List.mem_cons_self
      have hC8 : ∀ y ∈ C ++ [x], y.length ≤ 8 := fun y hy => (hws y (hsub y (hC' y hy))).2.1
      have hun : unS (C.map D.str ++ [D.str x]) = some (C ++ [x]) := by
        rw [show C.map D.str ++ [D.str x] = (C ++ [x]).map D.str by simp]
        exact unS_map _
      have hsum : ((C ++ [x]).map (·.length)).sum + (C ++ [x]).length * (Str.ofString " ").length ≤ 16777216 := by
        have h1 := sum_le hC8
        have h2 : (Str.ofString " ").length = 1 := by decide
        rw [h2]
        have h3 : (C ++ [x]).length ≤ 201 := by simp; omega
        omega
      have eq1 : (C ++ [x]).map D.str = C.map D.str ++ [D.str x] := by simp
      by_cases hL : isL x = true
      · rw [if_pos hL] at hf
        simp [-List.lookup_eq_none_iff, -List.map_map, hL]
        by_cases hw : w - 1 = 0
        · rw [if_pos hw]
          refine ⟨C ++ [x], hun, hsum, lt_size (by omega), fun a' _ => ?_⟩
          rw [show argFin (F, C ++ [x], w - 1) = (F ++ [Txt.join spc (C ++ [x])], [], 1) from if_pos hw] at hf
          exact ih _ ⟨.d (.str x), a', F ++ [Txt.join spc (C ++ [x])], [], 1, rest, by simp; rfl, rfl, hmem', by simp, by simp; omega, hf⟩
        · rw [if_neg hw]
          rw [argFin_ne hw] at hf
          exact ih _ ⟨.d (.str x), c3, F, C ++ [x], w - 1, rest, by simp, rfl, hmem', hC', by simp; omega, hf⟩
      · rw [if_neg hL] at hf
        obtain ⟨tb, htb, rfl⟩ := (hcl x hx).resolve_left hL
        rw [plN_mem ok htb] at hf
        simp [-List.lookup_eq_none_iff, -List.map_map, hL]
        refine ⟨ts, z, tb, rfl, ok, htb, ?_⟩
        simp [-List.lookup_eq_none_iff, -List.map_map]
        by_cases hw : w + tb.pl - 1 = 0
        · rw [if_pos hw]
          refine ⟨C ++ [tb.nm], hun, hsum, lt_size (by omega), fun a' _ => ?_⟩
          rw [show argFin (F, C ++ [tb.nm], w + tb.pl - 1) = (F ++ [Txt.join spc (C ++ [tb.nm])], [], 1) from if_pos hw] at hf
          exact ih _ ⟨.d (.str tb.nm), a', F ++ [Txt.join spc (C ++ [tb.nm])], [], 1, rest, by simp; rfl, rfl, hmem', by simp, by simp; omega, hf⟩
        · rw [if_neg hw]
          rw [argFin_ne hw] at hf
          exact ih _ ⟨.d (.str tb.nm), c3, F, C ++ [tb.nm], w + tb.pl - 1, rest, by simp, rfl, hmem', hC', by simp; omega, hf⟩
end A
set_option maxHeartbeats 4000000
namespace A
open PySem L2 DL
/-! ### all_parts -/
def kd (x : Str) : Key × D := (.inr x, .bl true)
theorem dPut_kd (K : List Str) (x : Str) : dPut (K.map kd) (.inr x) (.bl true) = (insK K x).map kd := by
  unfold insK
  split
  · rename_i h
    unfold dPut
    rw [if_pos]
    · rw [List.map_map]
      refine List.map_congr_left fun y hy => ?_
      show (if (kd y).1 = .inr x then ((kd y).1, D.bl true) else kd y) = kd y
      split <;> rfl
    · rw [List.any_eq_true]
      exact ⟨kd x, List.mem_map_of_mem h, by show decide (Sum.inr x = (Sum.inr x : Key)) = true; simp⟩
  · rename_i h
    rw [dPut_new]
    · simp [kd]
    · intro kv hkv z
      obtain ⟨y, hy, rfl⟩ := List.mem_map.mp hkv
      have : y = x := Sum.inr.inj z
      exact h (this ▸ hy)
theorem keysS_kd : ∀ K : List Str, keysS (K.map kd) = some K
  | [] => rfl
  | x :: K => by show (keysS (K.map kd)).map (x :: ·) = _; rw [keysS_kd K]; rfl
def needOk (ts : List Tab) : List Str → Nat → Prop
  | [], _ => True
  | x :: r, k => if isL x = true then needOk ts r (k + 1) else plN ts x ≤ k ∧ needOk ts r (k - plN ts x + 1)
mutual
theorem need_t {ts : List Tab} (ok : TabsOk ts) : ∀ (t : Tm), Wf ts t → ∀ (rest : List Str) (k : Nat), needOk ts rest (k + 1) → needOk ts ((words t).reverse ++ rest) k
  | .nd x as, ⟨hx, has⟩, rest, k, h => by
    show needOk ts ((x :: wordsL as).reverse ++ rest) k
    rw [List.reverse_cons, List.append_assoc]
    refine need_L ok as has _ _ ?_
    show needOk ts (x :: rest) (k + as.length)
    unfold needOk
    rcases hx with ⟨hc, rfl⟩ | ⟨t, ht, rfl, hl⟩
    · rw [if_pos (isChr_isL hc)]; exact h
    · rw [if_neg (by rw [nm_notL (ok.all t ht).nm]; simp), plN_mem ok ht, hl]
      exact ⟨by omega, by rw [show k + t.pl - t.pl + 1 = k + 1 by omega]; exact h⟩
theorem need_L {ts : List Tab} (ok : TabsOk ts) : ∀ (as : List Tm), WfL ts as → ∀ (rest : List Str) (k : Nat), needOk ts rest (k + as.length) → needOk ts ((wordsL as).reverse ++ rest) k
  | [], _, rest, k, h => by simpa [wordsL] using h
  | a :: r, ⟨ha, hr⟩, rest, k, h => by
    show needOk ts ((words a ++ wordsL r).reverse ++ rest) k
    rw [List.reverse_append, List.append_assoc]
    refine need_L ok r hr _ _ (need_t ok a ha _ _ ?_)
    rw [List.length_cons] at h
    rw [show k + r.length + 1 = k + (r.length + 1) by omega]; exact h
end
def meas (S : List Str) : Nat := (S.map fun s => s.length + 1).sum
theorem meas_snoc (S : List Str) (x : Str) : meas (S ++ [x]) = meas S + x.length + 1 := by unfold meas; simp; omega
theorem popN_meas : ∀ (n : Nat) (p : Str) (S : List Str), n ≤ S.length → (popN n p S).1.length + meas (popN n p S).2 = p.length + meas S ∧ (popN n p S).2.length = S.length - n
  | 0, p, S, _ => ⟨rfl, rfl⟩
  | n + 1, p, S, h => by
    rcases List.eq_nil_or_concat S with rfl | ⟨S', y, rfl⟩
    · simp at h
    · rw [List.concat_eq_append] at h ⊢
      show (popN n (p ++ spc ++ ((S' ++ [y]).getLast?.getD spc)) (S' ++ [y]).dropLast).1.length + meas (popN n (p ++ spc ++ ((S' ++ [y]).getLast?.getD spc)) (S' ++ [y]).dropLast).2 = _ ∧ (popN n (p ++ spc ++ ((S' ++ [y]).getLast?.getD spc)) (S' ++ [y]).dropLast).2.length = _
      rw [List.getLast?_concat, List.dropLast_concat]
      have := popN_meas n (p ++ spc ++ y) S' (by simp at h; omega)
      rw [meas_snoc]
      refine ⟨by show _ = _; rw [show (some y).getD spc = y from rfl, this.1, len_app, len_app, spc_len]; omega, by rw [show (some y).getD spc = y from rfl, this.2]; simp⟩
def fkey (t : Str) : KL := [.inl ((spl t).length - 1), .inr t.cps.toList]
def srtF (ys : List Str) : Prop := ys.Pairwise fun p q => klt (fkey q) (fkey p) = false
def sp_all_parts (c : Addr) : SpD := fun as Qd _ => ∃ (ts : List Tab) (z : D) (trs : List Tm), as = [.d (matD c ts z), .d (.tup ((trs.map text).map .str))] ∧ TabsOk ts ∧ (∀ t ∈ trs, Wf ts t ∧ (words t).length ≤ 100) ∧ trs.length ≤ 10 ∧
  ∀ ys : List Str, ys.Nodup → (∀ x, x ∈ ys ↔ ∃ t ∈ trs, x ∈ prT t) → srtF ys → Qd (.d (.tup (ys.map .str))) []
mutual
theorem prT_len8 {ts : List Tab} (ok : TabsOk ts) : ∀ (t : Tm), Wf ts t → ∀ x ∈ prT t, x.length ≤ 9 * (words t).length
  | .nd w as, h, x, hx => by
    rcases List.mem_append.mp (show x ∈ prL as ++ [text (.nd w as)] from hx) with hx | hx
    · have := prL_len8 ok as h.2 x hx
      show _ ≤ 9 * (w :: wordsL as).length
      rw [List.length_cons]; omega
    · obtain rfl : x = text (.nd w as) := by simpa using hx
      exact text_len ok h
theorem prL_len8 {ts : List Tab} (ok : TabsOk ts) : ∀ (as : List Tm), WfL ts as → ∀ x ∈ prL as, x.length ≤ 9 * (wordsL as).length
  | [], _, x, hx => by simp [prL] at hx
  | a :: r, ⟨ha, hr⟩, x, hx => by
    show _ ≤ 9 * (words a ++ wordsL r).length
    rw [List.length_append]
    rcases List.mem_append.mp (show x ∈ prL r ++ prT a from hx) with hx | hx
    · have := prL_len8 ok r hr x hx; omega
    · have := prT_len8 ok a ha x hx; omega
end
theorem ok_all_parts (c : Addr) (as : List Slot) (Qd Ed) (hl : as.length = 2) (h : sp_all_parts c as Qd Ed) : m_all_parts c sp_is_letter (sp_Matrix_places c) sp_formula_order (dEnds as Qd) (as ++ List.replicate 6 .un) (dWish as Ed) := by
  obtain ⟨ts, z, trs, rfl, ok, hwf, hn, hq⟩ := h
  unfold m_all_parts
  simp [-List.lookup_eq_none_iff, -List.map_map]
  intro b hb
  refine forD_ind (I := fun ds e => ∃ (x3 x4 x5 x6 x7 : Slot) (K : List Str) (done rest : List Tm), e = [.d (matD c ts z), .d (.tup ((trs.map text).map .str)), .own b (.dct (K.map kd)), x3, x4, x5, x6, x7] ∧ ds = (rest.map text).map .str ∧ done ++ rest = trs ∧ K.Nodup ∧ (∀ x, x ∈ K ↔ ∃ t ∈ done, x ∈ prT t) ∧ K.length ≤ 100 * done.length) (fun e he => ?_) (fun d ds e ih he => ?_) _ _ ⟨.un, .un, .un, .un, .un, [], [], trs, rfl, rfl, rfl, by simp, by simp, by simp⟩
  · obtain ⟨x3, x4, x5, x6, x7, K, done, rest, rfl, hr, hd, nd, hm, hK⟩ := he
    obtain rfl : rest = [] := by cases rest with | nil => rfl | cons _ _ => cases hr
    rw [List.append_nil] at hd
    subst hd
    simp [-List.lookup_eq_none_iff, -List.map_map]
    refine ⟨K, keysS_kd K, fun s => [D.int ((spl s).length - 1), D.str s], ⟨fun i => decide (i = 1), fun s hs => ⟨⟨by simp, by simp, trivial⟩, by simp, s, rfl, ?_, rfl⟩⟩, fun ss' hp hs => ?_⟩
    · obtain ⟨t, ht, hx⟩ := (hm s).mp hs
      have := prT_len8 ok t (hwf t ht).1 s hx
      have := (hwf t ht).2
      omega
    · refine hq ss' (hp.nodup_iff.mpr nd) (fun x => by rw [hp.mem_iff]; exact hm x) ?_
      exact hs
  · obtain ⟨x3, x4, x5, x6, x7, K, done, rest, rfl, hr, hd, nd, hm, hK⟩ := he
    cases rest with
    | nil => cases hr
    | cons t rest =>
      rw [List.map_cons, List.map_cons] at hr
      obtain ⟨rfl, rfl⟩ := List.cons.inj hr
      have ht : t ∈ trs := by rw [← hd]; simp
      obtain ⟨wf, hlen⟩ := hwf t ht
      have htl := text_len ok wf
      have hdl : done.length ≤ 10 := by have := congrArg List.length hd; simp at this; omega
      simp [-List.lookup_eq_none_iff, -List.map_map]
      intro s hs
      refine ⟨by decide, by rw [sizeLine_eq]; omega, ?_⟩
      have esp : Txt.split (text t) (Str.ofString " ") = words t := spl_text ok wf
      rw [esp]
      have hst := stack_t ok t wf [] K
      have hnd := need_t ok t wf [] 0 trivial
      rw [List.append_nil] at hnd
      rw [← List.map_reverse]
      have hws : ∀ x ∈ (words t).reverse, okW x ∧ (isL x = true ∨ ∃ tb ∈ ts, tb.nm = x) := fun x hx => ⟨words_ok ok t wf x (List.mem_reverse.mp hx), words_cls t wf x (List.mem_reverse.mp hx)⟩
      refine forD_ind (I := fun ds e => ∃ (x5 x6 x7 : Slot) (S K' rest2 : List Str), e = [.d (matD c ts z), .d (.tup ((trs.map text).map .str)), .own b (.dct (K'.map kd)), .d (.str (text t)), .own s (.lst (S.map .str)), x5, x6, x7] ∧ ds = rest2.map .str ∧ (∀ x ∈ rest2, okW x ∧ (isL x = true ∨ ∃ tb ∈ ts, tb.nm = x)) ∧ needOk ts rest2 S.length ∧ rest2.foldl (stepP ts) (S, K') = ([] ++ [text t], (prT t).foldl insK K) ∧ meas S + 9 * rest2.length ≤ 900 ∧ K'.length + rest2.length ≤ K.length + 100) (fun e he => ?_) (fun d ds e ih2 he => ?_) _ _ ⟨x5, x6, x7, [], K, (words t).reverse, rfl, rfl, hws, hnd, hst, by simp [meas]; omega, by simp; omega⟩
      · obtain ⟨x5, x6, x7, S, K', rest2, rfl, hr, _, _, hf, _, hK'⟩ := he
        obtain rfl : rest2 = [] := by cases rest2 with | nil => rfl | cons _ _ => cases hr
        simp only [List.foldl_nil, Prod.mk.injEq] at hf
        obtain ⟨rfl, rfl⟩ := hf
        refine ih _ ⟨_, _, x5, x6, x7, (prT t).foldl insK K, done ++ [t], rest, rfl, rfl, by rw [List.append_assoc]; exact hd, nodup_insAll nd, fun x => ?_, by simp at hK' ⊢; omega⟩
        rw [mem_insAll, hm]
        constructor
        · rintro (⟨u, hu, h⟩ | h)
          · exact ⟨u, List.mem_append_left _ hu, h⟩
          · exact ⟨t, by simp, h⟩
        · rintro ⟨u, hu, h⟩
          rcases List.mem_append.mp hu with hu | hu
          · exact .inl ⟨u, hu, h⟩
          · obtain rfl : u = t := by simpa using hu
            exact .inr h
      · obtain ⟨x5, x6, x7, S, K', rest2, rfl, hr, hcl, hneed, hf, hme, hK'⟩ := he
        cases rest2 with
        | nil => cases hr
        | cons x rest2 =>
          rw [List.map_cons] at hr
          obtain ⟨rfl, rfl⟩ := List.cons.inj hr
          obtain ⟨hokx, hclx⟩ := hcl x List.mem_cons_self
          have hx8 := hokx.2.1
          have hcl' : ∀ y ∈ rest2, okW y ∧ (isL y = true ∨ ∃ tb ∈ ts, tb.nm = y) := fun y hy => hcl y (List.mem_cons_of_mem _ hy)
          simp only [List.length_cons] at hme hK'
          rw [List.foldl_cons] at hf
          unfold needOk at hneed
          have fin : ∀ (p : Str) (S' : List Str) (x7 : Slot), (if isL x = true then (x, S) else popN (plN ts x) x S) = (p, S') → needOk ts rest2 (S'.length + 1) → meas S' + p.length + 1 + 9 * rest2.length ≤ 900 → S'.length < sizeLine ∧ K'.length < sizeLine ∧ _ := fun p S' x7 he hnd hme => ⟨lt_size (by
              have : ∀ l : List Str, l.length ≤ meas l := fun l => by
                induction l with
                | nil => simp [meas]
                | cons a l ih => unfold meas at ih ⊢; simp; omega
              have := this S'; omega), lt_size (by omega), ih2 [.d (matD c ts z), .d (.tup ((trs.map text).map .str)), .own b (.dct ((insK K' p).map kd)), .d (.str (text t)), .own s (.lst ((S' ++ [p]).map .str)), .d (.str x), .d (.str p), x7] ⟨_, _, x7, S' ++ [p], insK K' p, rest2, rfl, rfl, hcl', by simpa using hnd, by
              unfold stepP at hf
              simp only [he] at hf
              exact hf, by rw [meas_snoc]; omega, by
              have : (insK K' p).length ≤ K'.length + 1 := by unfold insK; split <;> simp
              omega⟩⟩
          simp [-List.lookup_eq_none_iff, -List.map_map]
          refine ⟨x, rfl, by omega, ?_⟩
          by_cases hL : isL x = true
          · simp only [hL, if_true] at hneed fin
            obtain ⟨f1, f2, f3⟩ := fin x S x7 rfl hneed (by omega)
            simp [-List.lookup_eq_none_iff, -List.map_map, hL, keyD, f1, f2]
            rw [dPut_kd]
            simp [-List.lookup_eq_none_iff, -List.map_map] at f3
            exact f3
          · obtain ⟨tb, htb, rfl⟩ := hclx.resolve_left hL
            rw [if_neg hL, plN_mem ok htb] at hneed
            rw [if_neg hL, plN_mem ok htb] at fin
            simp [-List.lookup_eq_none_iff, -List.map_map, hL]
            refine ⟨ts, z, tb, rfl, ok, htb, ?_⟩
            have hpl := (ok.all tb htb).pl
            have hb1 : ((tb.pl : Int) < 4611686018427387904) := by omega
            have hb2 : (-4611686018427387904 : Int) ≤ tb.pl := by omega
            simp [-List.lookup_eq_none_iff, -List.map_map, hb1, hb2]
            obtain ⟨pm1, pm2⟩ := popN_meas tb.pl tb.nm S hneed.1
            refine forD_ind (I := fun ds e => ∃ (x7 : Slot) (p : Str) (S' : List Str), e = [.d (matD c ts z), .d (.tup ((trs.map text).map .str)), .own b (.dct (K'.map kd)), .d (.str (text t)), .own s (.lst (S'.map .str)), .d (.str tb.nm), .d (.str p), x7] ∧ popN ds.length p S' = popN tb.pl tb.nm S ∧ ds.length ≤ S'.length ∧ p.length + meas S' ≤ 900) (fun e he => ?_) (fun d ds e ih3 he => ?_) _ _ ⟨x7, tb.nm, S, rfl, by rw [rngD_len], by rw [rngD_len]; exact hneed.1, by omega⟩
            · obtain ⟨x7, p, S', rfl, hp, _, hm'⟩ := he
              have hp' : popN tb.pl tb.nm S = (p, S') := hp.symm
              rw [hp'] at pm1 pm2 fin
              simp only at pm1 pm2
              obtain ⟨f1, f2, f3⟩ := fin p S' x7 rfl (by rw [pm2]; exact hneed.2) (by omega)
              simp [-List.lookup_eq_none_iff, -List.map_map, keyD, f1, f2]
              rw [dPut_kd]
              simp [-List.lookup_eq_none_iff, -List.map_map] at f3
              exact f3
            · obtain ⟨x7, p, S', rfl, hp, hle, hm'⟩ := he
              rcases List.eq_nil_or_concat S' with rfl | ⟨S'', y, rfl⟩
              · simp at hle
              · rw [List.concat_eq_append] at hp hle hm' ⊢
                rw [meas_snoc] at hm'
                have hp2 : popN ds.length (p ++ spc ++ y) S'' = popN tb.pl tb.nm S := by
                  rw [← hp]
                  show _ = popN ds.length (p ++ spc ++ ((S'' ++ [y]).getLast?.getD spc)) (S'' ++ [y]).dropLast
                  rw [List.getLast?_concat, List.dropLast_concat]
                  rfl
                have hs1 : p.length + (Str.ofString " ").length ≤ sizeLine := le_size (by rw [show (Str.ofString " ").length = 1 by decide]; omega)
                have hs2 : (p ++ Str.ofString " ").length + y.length ≤ sizeLine := le_size (by rw [len_app, show (Str.ofString " ").length = 1 by decide]; omega)
                simp [-List.lookup_eq_none_iff, -List.map_map, hs1]
                refine ⟨hs2, ?_⟩
                have := ih3 [.d (matD c ts z), .d (.tup ((trs.map text).map .str)), .own b (.dct (K'.map kd)), .d (.str (text t)), .own s (.lst (S''.map .str)), .d (.str tb.nm), .d (.str (p ++ spc ++ y)), .d d] ⟨.d d, _, S'', rfl, hp2, by simp at hle; omega, by rw [len_app, len_app, spc_len]; omega⟩
                exact this
end A
set_option maxHeartbeats 4000000
namespace A
open PySem L2 DL
def sp_formula_parts (c : Addr) : SpD := fun as Qd _ => ∃ (ts : List Tab) (z : D) (t : Tm), as = [.d (matD c ts z), .d (.str (text t))] ∧ TabsOk ts ∧ Wf ts t ∧ (words t).length ≤ 100 ∧
  ∀ ys : List Str, ys.Nodup → (∀ x, x ∈ ys ↔ x ∈ prT t) → srtF ys → Qd (.d (.tup (ys.map .str))) []
theorem ok_formula_parts (c : Addr) (as : List Slot) (Qd Ed) (hl : as.length = 2) (h : sp_formula_parts c as Qd Ed) : m_formula_parts (sp_all_parts c) (dEnds as Qd) (as ++ List.replicate 0 .un) (dWish as Ed) := by
  obtain ⟨ts, z, t, rfl, ok, wf, hlen, hq⟩ := h
  unfold m_formula_parts
  simp
  refine ⟨ts, z, [t], rfl, ok, fun u hu => ?_, by simp, fun ys h1 h2 h3 => ?_⟩
  · obtain rfl : u = t := by simpa using hu
    exact ⟨wf, hlen⟩
  · simp
    exact hq ys h1 (fun x => by rw [h2]; simp) h3
/-! ### letters -/
def alph : List Str := (List.range' 97 26).map fun c => ⟨#[c]⟩
theorem isL_alph {x : Str} (h : isL x = true) : x ∈ alph := by
  unfold isL at h
  split at h
  · rename_i c hc
    have e : x = ⟨#[c]⟩ := by rw [str_eta x, hc]
    rw [e]
    simp at h
    exact List.mem_map.mpr ⟨c, by rw [List.mem_range'_1]; omega, rfl⟩
  · cases h
theorem nodup_len {K : List Str} (nd : K.Nodup) (h : ∀ x ∈ K, isL x = true) : K.length < 64 := by
  have := List.Nodup.length_le_of_subset nd (l₂ := alph) fun x hx => isL_alph (h x hx)
  have e : alph.length = 26 := by decide
  omega
def sp_formula_letters : SpD := fun as Qd _ => ∃ (ts : List Tab) (trs : List Tm), as = [.d (.tup ((trs.map text).map .str))] ∧ TabsOk ts ∧ (∀ t ∈ trs, Wf ts t ∧ (words t).length ≤ 100) ∧
  ∀ ys : List Str, ys.Nodup → (∀ x, x ∈ ys ↔ ∃ t ∈ trs, x ∈ words t ∧ isL x = true) → PyProof.Rows.sortedS ys = true → Qd (.d (.tup (ys.map .str))) []
theorem ok_formula_letters (as : List Slot) (Qd Ed) (hl : as.length = 1) (h : sp_formula_letters as Qd Ed) : m_formula_letters sp_is_letter (dEnds as Qd) (as ++ List.replicate 3 .un) (dWish as Ed) := by
  obtain ⟨ts, trs, rfl, ok, hwf, hq⟩ := h
  unfold m_formula_letters
  simp [-List.lookup_eq_none_iff, -List.map_map]
  intro b hb
  refine forD_ind (I := fun ds e => ∃ (x2 x3 : Slot) (K : List Str) (done rest : List Tm), e = [.d (.tup ((trs.map text).map .str)), .own b (.dct (K.map kd)), x2, x3] ∧ ds = (rest.map text).map .str ∧ done ++ rest = trs ∧ K.Nodup ∧ (∀ x ∈ K, isL x = true) ∧ (∀ x, x ∈ K ↔ ∃ t ∈ done, x ∈ words t ∧ isL x = true)) (fun e he => ?_) (fun d ds e ih he => ?_) _ _ ⟨.un, .un, [], [], trs, rfl, rfl, rfl, by simp, by simp, by simp⟩
  · obtain ⟨x2, x3, K, done, rest, rfl, hr, hd, nd, hL, hm⟩ := he
    obtain rfl : rest = [] := by cases rest with | nil => rfl | cons _ _ => cases hr
    rw [List.append_nil] at hd
    subst hd
    simp [-List.lookup_eq_none_iff, -List.map_map]
    refine .inl ⟨K, keysS_kd K, nodup_len nd hL, fun ys hp hs => ?_⟩
    simp [-List.lookup_eq_none_iff, -List.map_map]
    exact hq ys (hp.nodup_iff.mpr nd) (fun x => by rw [hp.mem_iff]; exact hm x) hs
  · obtain ⟨x2, x3, K, done, rest, rfl, hr, hd, nd, hL, hm⟩ := he
    cases rest with
    | nil => cases hr
    | cons t rest =>
      rw [List.map_cons, List.map_cons] at hr
      obtain ⟨rfl, rfl⟩ := List.cons.inj hr
      have ht : t ∈ trs := by rw [← hd]; simp
      obtain ⟨wf, hlen⟩ := hwf t ht
      have htl := text_len ok wf
      simp [-List.lookup_eq_none_iff, -List.map_map]
      refine ⟨by decide, by rw [sizeLine_eq]; omega, ?_⟩
      have esp : Txt.split (text t) (Str.ofString " ") = words t := spl_text ok wf
      rw [esp]
      refine forD_ind (I := fun ds e => ∃ (x3 : Slot) (K' : List Str) (d2 rest2 : List Str), e = [.d (.tup ((trs.map text).map .str)), .own b (.dct (K'.map kd)), .d (.str (text t)), x3] ∧ ds = rest2.map .str ∧ d2 ++ rest2 = words t ∧ K'.Nodup ∧ (∀ x ∈ K', isL x = true) ∧ (∀ x, x ∈ K' ↔ x ∈ K ∨ (x ∈ d2 ∧ isL x = true))) (fun e he => ?_) (fun d ds e ih2 he => ?_) _ _ ⟨x3, K, [], words t, rfl, rfl, rfl, nd, hL, by simp⟩
      · obtain ⟨x3, K', d2, rest2, rfl, hr, hd2, nd', hL', hm'⟩ := he
        obtain rfl : rest2 = [] := by cases rest2 with | nil => rfl | cons _ _ => cases hr
        rw [List.append_nil] at hd2
        subst hd2
        refine ih _ ⟨_, x3, K', done ++ [t], rest, rfl, rfl, by rw [List.append_assoc]; exact hd, nd', hL', fun x => ?_⟩
        rw [hm', hm]
        constructor
        · rintro (⟨u, hu, h⟩ | h)
          · exact ⟨u, List.mem_append_left _ hu, h⟩
          · exact ⟨t, by simp, h⟩
        · rintro ⟨u, hu, h⟩
          rcases List.mem_append.mp hu with hu | hu
          · exact .inl ⟨u, hu, h⟩
          · obtain rfl : u = t := by simpa using hu
            exact .inr h
      · obtain ⟨x3, K', d2, rest2, rfl, hr, hd2, nd', hL', hm'⟩ := he
        cases rest2 with
        | nil => cases hr
        | cons x rest2 =>
          rw [List.map_cons] at hr
          obtain ⟨rfl, rfl⟩ := List.cons.inj hr
          have hx8 := (words_ok ok t wf x (by rw [← hd2]; simp)).2.1
          have hK64 := nodup_len nd' hL'
          simp [-List.lookup_eq_none_iff, -List.map_map]
          refine ⟨x, rfl, by omega, ?_⟩
          by_cases hx : isL x = true
          · have hk : K'.length < sizeLine := lt_size (by omega)
            simp [-List.lookup_eq_none_iff, -List.map_map, hx, keyD, hk]
            rw [dPut_kd]
            refine ih2 _ ⟨_, insK K' x, d2 ++ [x], rest2, rfl, rfl, by rw [List.append_assoc]; exact hd2, nodup_insK nd', fun y hy => ?_, fun y => ?_⟩
            · rcases mem_insK.mp hy with hy | rfl
              · exact hL' y hy
              · exact hx
            · rw [mem_insK, hm', List.mem_append, List.mem_singleton]
              constructor
              · rintro ((h | h) | rfl)
                · exact .inl h
                · exact .inr ⟨.inl h.1, h.2⟩
                · exact .inr ⟨.inr rfl, hx⟩
              · rintro (h | ⟨h | rfl, h2⟩)
                · exact .inl (.inl h)
                · exact .inl (.inr ⟨h, h2⟩)
                · exact .inr rfl
          · simp [-List.lookup_eq_none_iff, -List.map_map, hx]
            refine ih2 _ ⟨_, K', d2 ++ [x], rest2, rfl, rfl, by rw [List.append_assoc]; exact hd2, nd', hL', fun y => ?_⟩
            rw [hm', List.mem_append, List.mem_singleton]
            constructor
            · rintro (h | h)
              · exact .inl h
              · exact .inr ⟨.inl h.1, h.2⟩
            · rintro (h | ⟨h | rfl, h2⟩)
              · exact .inl h
              · exact .inr ⟨h, h2⟩
              · exact absurd h2 hx
end A
set_option maxHeartbeats 4000000
namespace A
open PySem L2 DL
/-! ### put, images -/
def byD (m : List (Str × Str)) : List (Key × D) := m.map fun p => (.inr p.1, .str p.2)
def mget (m : List (Str × Str)) (w : Str) : Option Str := (m.find? fun p => decide (p.1 = w)).map (·.2)
def sub (m : List (Str × Str)) (w : Str) : Str := (mget m w).getD w
theorem byD_get (m : List (Str × Str)) (w : Str) : dGet (byD m) (.inr w) = (mget m w).map .str := by
  unfold dGet byD mget
  induction m with
  | nil => rfl
  | cons p m ih =>
    rw [List.map_cons, List.find?_cons, List.find?_cons]
    by_cases h : p.1 = w
    · simp [h]
    · simp [h] at ih ⊢
      exact ih
theorem byD_getD (m : List (Str × Str)) (w : Str) : (dGet (byD m) (.inr w)).getD (.str w) = .str (sub m w) := by
  rw [byD_get]
  unfold sub
  cases mget m w <;> rfl
theorem mget_mem {m : List (Str × Str)} {w v : Str} (h : mget m w = some v) : (w, v) ∈ m := by
  unfold mget at h
  obtain ⟨p, hp, rfl⟩ := Option.map_eq_some_iff.mp h
  have h1 := List.find?_some hp
  have h2 := List.mem_of_find?_eq_some hp
  have : p.1 = w := by simpa using h1
  rw [← this]; exact h2
def textF (f : Str → Str) (t : Tm) : Str := Txt.join spc ((words t).map f)
theorem meas_len : ∀ ws : List Str, (Txt.join spc ws).length ≤ meas ws
  | [] => by rw [show Txt.join spc [] = Str.ofString "" by rw [TL.join_eq]; rfl]; decide
  | [w] => by rw [join_one]; simp [meas]
  | w :: x :: r => by
    rw [join_cons, len_app, len_app, spc_len]
    have := meas_len (x :: r)
    unfold meas at this ⊢
    simp only [List.map_cons, List.sum_cons] at this ⊢
    omega
theorem meas_le {ws : List Str} {k : Nat} (h : ∀ x ∈ ws, x.length ≤ k) : meas ws ≤ (k + 1) * ws.length := by
  induction ws with
  | nil => simp [meas]
  | cons w r ih =>
    have h1 := h w List.mem_cons_self
    have h2 := ih fun y hy => h y (List.mem_cons_of_mem _ hy)
    unfold meas at h2 ⊢
    simp only [List.map_cons, List.sum_cons, List.length_cons]
    rw [Nat.mul_add]
    omega
structure MOk (m : List (Str × Str)) : Prop where
  keys : ∀ p ∈ m, isL p.1 = true
  vals : ∀ p ∈ m, p.2.length ≤ 300
theorem sub_len {m : List (Str × Str)} (ok : MOk m) {w : Str} (h : w.length ≤ 300) : (sub m w).length ≤ 300 := by
  unfold sub
  cases q : mget m w with
  | none => exact h
  | some v => exact ok.vals _ (mget_mem q)
theorem sub_not {m : List (Str × Str)} (ok : MOk m) {w : Str} (h : isL w = false) : sub m w = w := by
  unfold sub
  cases q : mget m w with
  | none => rfl
  | some v =>
    have := ok.keys _ (mget_mem q)
    rw [show (w, v).1 = w from rfl, h] at this
    cases this
theorem sum_meas : ∀ ws : List Str, (ws.map (·.length)).sum + ws.length * 1 = meas ws
  | [] => rfl
  | w :: r => by
    have := sum_meas r
    unfold meas at this ⊢
    simp only [List.map_cons, List.sum_cons, List.length_cons] at this ⊢
    omega
def sp_put : SpD := fun as Qd _ => ∃ (ts : List Tab) (t : Tm) (m : List (Str × Str)), as = [.d (.str (text t)), .d (.dct (byD m))] ∧ TabsOk ts ∧ Wf ts t ∧ (words t).length ≤ 100 ∧ MOk m ∧ Qd (.d (.str (textF (sub m) t))) []
theorem ok_put (as : List Slot) (Qd Ed) (hl : as.length = 2) (h : sp_put as Qd Ed) : m_put (dEnds as Qd) (as ++ List.replicate 1 .un) (dWish as Ed) := by
  obtain ⟨ts, t, m, rfl, ok, wf, hlen, mok, hq⟩ := h
  unfold m_put
  have htl := text_len ok wf
  have esp : Txt.split (text t) (Str.ofString " ") = words t := spl_text ok wf
  simp [-List.lookup_eq_none_iff, -List.map_map]
  refine ⟨by decide, by rw [sizeLine_eq]; omega, ?_⟩
  rw [esp]
  refine lc_map rfl (fun d => match d with | .str w => .str (sub m w) | _ => .non) _ [] (fun d hd K hK => ?_) (by simp; omega) ?_
  · obtain ⟨w, hw, rfl⟩ := List.mem_map.mp hd
    simp [wipeE, keyD]
    rw [byD_getD]
    exact hK _ (by simp [rstE])
  · have e1 : ([] ++ ((words t).map D.str).map fun d => match d with | .str w => D.str (sub m w) | _ => .non) = ((words t).map (sub m)).map D.str := by
      rw [List.nil_append, List.map_map, List.map_map]; rfl
    rw [e1]
    simp [-List.lookup_eq_none_iff, -List.map_map]
    refine ⟨_, unS_map _, ?_, hq⟩
    have h1 := sum_meas ((words t).map (sub m))
    have h2 : meas ((words t).map (sub m)) ≤ 301 * ((words t).map (sub m)).length := meas_le fun x hx => by
      obtain ⟨w, hw, rfl⟩ := List.mem_map.mp hx
      exact sub_len mok (by have := (words_ok ok t wf w hw).2.1; omega)
    rw [show (Str.ofString " ").length = 1 by decide]
    rw [List.length_map] at h2
    omega
/-! ### the pool -/
structure Rec where
  t : Tm
  ps : List Str
def recD (r : Rec) : D := .tup [.str (text r.t), .tup (((args r.t).map text).map .str), .lst (r.ps.map .str)]
structure RecOk (ts : List Tab) (r : Rec) : Prop where
  wf : Wf ts r.t
  len : (words r.t).length ≤ 24
  nd : r.ps.Nodup
  mem : ∀ x, x ∈ r.ps ↔ x ∈ prT r.t
inductive Pl (ts : List Tab) : List Rec → Prop
  | nil : Pl ts []
  | snoc {p : List Rec} {r : Rec} : Pl ts p → RecOk ts r → (∀ a ∈ args r.t, ∃ q ∈ p, q.t = a) → Pl ts (p ++ [r])
theorem Pl.all {ts : List Tab} {p : List Rec} (h : Pl ts p) : ∀ r ∈ p, RecOk ts r := by
  induction h with
  | nil => exact fun r hr => by cases hr
  | snoc _ h2 _ ih =>
    intro r hr
    rcases List.mem_append.mp hr with hr | hr
    · exact ih r hr
    · rw [List.mem_singleton.mp hr]; exact h2
theorem find_put_ne {K : List (Key × D)} {k k' : Key} {d : D} (h : ¬ k' = k) : ((K.map fun kv => if kv.1 = k then (kv.1, d) else kv).find? fun kv => decide (kv.1 = k')) = K.find? fun kv => decide (kv.1 = k') := by
  induction K with
  | nil => rfl
  | cons u K ih =>
    rw [List.map_cons, List.find?_cons, List.find?_cons, ih]
    by_cases h1 : u.1 = k
    · have h2 : ¬ u.1 = k' := fun z => h (z.symm.trans h1)
      rw [if_pos h1]
      simp only [h2, decide_false]
    · rw [if_neg h1]
theorem find_put_eq {K : List (Key × D)} {k : Key} {d : D} (h : K.any (fun kv => decide (kv.1 = k)) = true) : ((K.map fun kv => if kv.1 = k then (kv.1, d) else kv).find? fun kv => decide (kv.1 = k)) = some (k, d) := by
  induction K with
  | nil => cases h
  | cons u K ih =>
    rw [List.map_cons, List.find?_cons]
    by_cases h1 : u.1 = k
    · rw [if_pos h1]
      simp only [h1, decide_true]
    · rw [if_neg h1]
      rw [List.any_cons] at h
      simp only [h1, decide_false, Bool.false_or] at h ⊢
      exact ih h
theorem dGet_put (K : List (Key × D)) (k k' : Key) (d : D) : dGet (dPut K k d) k' = if k' = k then some d else dGet K k' := by
  unfold dPut dGet
  split
  · rename_i h
    by_cases h1 : k' = k
    · subst h1
      rw [find_put_eq h, if_pos rfl]; rfl
    · rw [find_put_ne h1, if_neg h1]
  · rename_i h
    rw [List.find?_append]
    by_cases h2 : k' = k
    · subst h2
      have : K.find? (fun kv => decide (kv.1 = k')) = none := by
        rw [List.find?_eq_none]
        intro kv hkv z
        exact h (List.any_eq_true.mpr ⟨kv, hkv, z⟩)
      rw [this]; simp
    · have h3 : ¬ k = k' := fun z => h2 z.symm
      simp [h2, h3]
end A
set_option maxHeartbeats 4000000
namespace A
open PySem L2 DL
theorem Pl.mid {ts : List Tab} {p : List Rec} (h : Pl ts p) : ∀ {d rest : List Rec} {r : Rec}, p = d ++ r :: rest → RecOk ts r ∧ ∀ a ∈ args r.t, ∃ q ∈ d, q.t = a := by
  induction h with
  | nil => intro d rest r e; simp at e
  | @snoc p x h1 h2 h3 ih =>
    intro d rest r e
    rcases List.eq_nil_or_concat rest with rfl | ⟨rest', y, rfl⟩
    · have := List.append_inj' e rfl
      obtain ⟨rfl, h4⟩ := this
      obtain rfl : x = r := by simpa using h4
      exact ⟨h2, h3⟩
    · rw [List.concat_eq_append, ← List.cons_append, ← List.append_assoc] at e
      have := List.append_inj' e rfl
      exact ih this.1
theorem textF_nd (f : Str → Str) (w : Str) (as : List Tm) : textF f (.nd w as) = Txt.join spc (f w :: as.map (textF f)) := by
  have key : ∀ (as : List Tm) (w : Str), Txt.join spc (w :: (wordsL as).map f) = Txt.join spc (w :: as.map (textF f)) := by
    intro as
    induction as with
    | nil => intro w; rfl
    | cons a r ih =>
      intro w
      have hne : (words a).map f ≠ [] := by simp [words_ne]
      have e1 : Txt.join spc (w :: ((words a).map f ++ (wordsL r).map f)) = w ++ spc ++ Txt.join spc ((words a).map f ++ (wordsL r).map f) := by
        have := join_app (ws := [w]) (vs := (words a).map f ++ (wordsL r).map f) (by simp) (by simp [words_ne])
        rw [join_one] at this
        exact this
      show Txt.join spc (w :: (words a ++ wordsL r).map f) = _
      rw [List.map_append, e1, List.map_cons, join_cons, ← ih (textF f a)]
      congr 1
      cases hr : (wordsL r).map f with
      | nil =>
        rw [List.append_nil, join_one]; rfl
      | cons v vs =>
        rw [join_app hne (by simp), join_cons]; rfl
  exact key as (f w)
theorem textF_eq {ts : List Tab} (ok : TabsOk ts) {t u : Tm} (ht : Wf ts t) (hu : Wf ts u) (e : text t = text u) (f : Str → Str) : textF f t = textF f u := by
  unfold textF
  rw [← spl_text ok ht, ← spl_text ok hu, e]
theorem textF_len {ts : List Tab} (ok : TabsOk ts) {m : List (Str × Str)} (mok : MOk m) {t : Tm} (ht : Wf ts t) (hl : (words t).length ≤ 100) : (textF (sub m) t).length ≤ 30100 := by
  have h2 : meas ((words t).map (sub m)) ≤ 301 * ((words t).map (sub m)).length := meas_le fun x hx => by
    obtain ⟨w, hw, rfl⟩ := List.mem_map.mp hx
    exact sub_len mok (by have := (words_ok ok t ht w hw).2.1; omega)
  have := meas_len ((words t).map (sub m))
  rw [List.length_map] at h2
  unfold textF
  omega
theorem wf_cases {ts : List Tab} (ok : TabsOk ts) {w : Str} {as : List Tm} (h : Wf ts (.nd w as)) : (isL w = true ∧ as = [] ∧ text (.nd w as) = w) ∨ (isL w = false ∧ isL (text (.nd w as)) = false ∧ as.length ≤ 3) := by
  obtain ⟨hx, has⟩ := h
  rcases hx with ⟨hc, rfl⟩ | ⟨t, ht, rfl, hl⟩
  · exact .inl ⟨isChr_isL hc, rfl, by rw [text_nd]; exact join_one w⟩
  · refine .inr ⟨nm_notL (ok.all t ht).nm, isL_len ?_, by rw [hl]; exact (ok.all t ht).pl⟩
    have h2 := (ok.all t ht).nm.1
    rw [text_nd]
    cases hm : as.map text with
    | nil => rw [join_one]; omega
    | cons v vs => rw [join_cons, len_app, len_app]; omega
theorem args_nd (w as) : args (.nd w as) = as := rfl
theorem spl_at {ts : List Tab} (ok : TabsOk ts) {w : Str} {as : List Tm} (h : Wf ts (.nd w as)) : Txt.split (text (.nd w as)) (Str.ofString " ") = w :: wordsL as := spl_text ok h
theorem imap {IM : List (Key × D)} {g : Tm → Str} : ∀ {as : List Tm}, (∀ a ∈ as, dGet IM (.inr (text a)) = some (.str (g a))) → ((as.map text).map D.str).map (fun d => match d with | .str s => (dGet IM (.inr s)).getD .non | _ => .non) = (as.map g).map D.str
  | [], _ => rfl
  | a :: r, h => by
    rw [List.map_cons, List.map_cons, List.map_cons, List.map_cons, List.map_cons, imap fun b hb => h b (List.mem_cons_of_mem _ hb)]
    simp only [h a List.mem_cons_self, Option.getD_some]
def ImOk (m : List (Str × Str)) (p : List Rec) (IM : List (Key × D)) : Prop := ∀ r ∈ p, dGet IM (.inr (text r.t)) = some (.str (textF (sub m) r.t))
theorem ImOk.put {ts : List Tab} (ok : TabsOk ts) {m : List (Str × Str)} {d : List Rec} {r : Rec} {IM : List (Key × D)} (h : ImOk m d IM) (hw : ∀ q ∈ d, Wf ts q.t) (hr : Wf ts r.t) : ImOk m (d ++ [r]) (dPut IM (.inr (text r.t)) (.str (textF (sub m) r.t))) := by
  intro q hq
  rw [dGet_put]
  split
  · rename_i e
    have e' : text q.t = text r.t := Sum.inr.inj e
    rcases List.mem_append.mp hq with hq | hq
    · rw [textF_eq ok (hw q hq) hr e']
    · obtain rfl : q = r := by simpa using hq
      rfl
  · rename_i e
    rcases List.mem_append.mp hq with hq | hq
    · exact h q hq
    · obtain rfl : q = r := by simpa using hq
      exact absurd rfl e
def sp_law_images : SpD := fun as Qd _ => ∃ (ts : List Tab) (p : List Rec) (m : List (Str × Str)), as = [.d (.lst (p.map recD)), .d (.dct (byD m))] ∧ TabsOk ts ∧ Pl ts p ∧ p.length ≤ 20 ∧ MOk m ∧ ∀ IM : List (Key × D), ImOk m p IM → Qd (.d (.dct IM)) []
theorem ok_law_images (as : List Slot) (Qd Ed) (hl : as.length = 2) (h : sp_law_images as Qd Ed) : m_law_images sp_is_letter (dEnds as Qd) (as ++ List.replicate 4 .un) (dWish as Ed) := by
  obtain ⟨ts, p, m, rfl, ok, pl, hlen, mok, hq⟩ := h
  unfold m_law_images
  simp [-List.lookup_eq_none_iff, -List.map_map]
  intro b hb
  refine forD_ind (I := fun ds e => ∃ (x3 x4 : Slot) (IM : List (Key × D)) (d rest : List Rec), e = [.d (.lst (p.map recD)), .d (.dct (byD m)), .own b (.dct IM), x3, x4, .un] ∧ ds = rest.map recD ∧ d ++ rest = p ∧ ImOk m d IM ∧ IM.length ≤ d.length) (fun e he => ?_) (fun dd ds e ih he => ?_) _ _ ⟨.un, .un, [], [], p, rfl, rfl, rfl, (fun r hr => by cases hr), by simp⟩
  · obtain ⟨x3, x4, IM, d, rest, rfl, hr, hd, him, _⟩ := he
    obtain rfl : rest = [] := by cases rest with | nil => rfl | cons _ _ => cases hr
    rw [List.append_nil] at hd
    subst hd
    simp [-List.lookup_eq_none_iff, -List.map_map]
    exact hq IM him
  · obtain ⟨x3, x4, IM, d, rest, rfl, hr, hd, him, himl⟩ := he
    cases rest with
    | nil => cases hr
    | cons r rest =>
      rw [List.map_cons] at hr
      obtain ⟨rfl, rfl⟩ := List.cons.inj hr
      obtain ⟨rok, hargs⟩ := pl.mid hd.symm
      have hdl : d.length < 20 := by rw [← hd] at hlen; simp at hlen; omega
      have hdw : ∀ q ∈ d, Wf ts q.t := fun q hq' => (pl.all q (by rw [← hd]; exact List.mem_append_left _ hq')).wf
      obtain ⟨t, ps⟩ := r
      obtain ⟨w, as⟩ := t
      have wf : Wf ts (.nd w as) := rok.wf
      have hlen24 : (words (.nd w as)).length ≤ 24 := rok.len
      have htl := text_len ok wf
      have nx := ih
      simp [-List.lookup_eq_none_iff, -List.map_map, recD]
      refine ⟨text (.nd w as), rfl, by omega, ?_⟩
      have fin : ImOk m (d ++ [⟨.nd w as, ps⟩]) (dPut IM (.inr (text (.nd w as))) (.str (textF (sub m) (.nd w as)))) := ImOk.put ok him hdw wf
      have finl : (dPut IM (.inr (text (.nd w as))) (.str (textF (sub m) (.nd w as)))).length ≤ (d ++ [(⟨.nd w as, ps⟩ : Rec)]).length := by
        unfold dPut
        split <;> simp <;> omega
      rcases wf_cases ok wf with ⟨hL, rfl, ht⟩ | ⟨hL, hT, h3⟩
      · rw [ht, hL]
        simp [-List.lookup_eq_none_iff, -List.map_map, keyD]
        rw [byD_getD]
        refine ⟨lt_size (by omega), ih _ ⟨_, _, _, d ++ [⟨.nd w [], ps⟩], rest, rfl, rfl, by rw [List.append_assoc]; exact hd, ?_, ?_⟩⟩
        · rw [ht] at fin
          have : textF (sub m) (.nd w []) = sub m w := by rw [textF_nd]; exact join_one _
          rw [this] at fin
          exact fin
        · rw [ht] at finl
          have : textF (sub m) (.nd w []) = sub m w := by rw [textF_nd]; exact join_one _
          rw [this] at finl
          exact finl
      · rw [hT]
        simp [-List.lookup_eq_none_iff, -List.map_map]
        refine ⟨by decide, by rw [sizeLine_eq]; omega, ?_⟩
        rw [spl_at ok wf]
        simp [-List.lookup_eq_none_iff, -List.map_map]
        refine lc_map rfl (fun d => match d with | .str s => (dGet IM (.inr s)).getD .non | _ => .non) _ [] (fun dd hd' K hK => ?_) (by simp [args_nd]; omega) ?_
        · obtain ⟨s, hs, rfl⟩ := List.mem_map.mp hd'
          obtain ⟨a, ha, rfl⟩ := List.mem_map.mp hs
          obtain ⟨q, hq1, rfl⟩ := hargs a ha
          have e1 := him q hq1
          simp [wipeE, keyD, oDGet, e1]
          have := hK
          simp [e1] at this
          exact this _ (by simp [rstE])
        · rw [List.nil_append, imap (g := textF (sub m)) fun a ha => by
            obtain ⟨q, hq1, rfl⟩ := hargs a ha
            exact him q hq1]
          simp [-List.lookup_eq_none_iff, -List.map_map]
          have hsum : (([w] ++ as.map (textF (sub m))).map (·.length)).sum ≤ 8 + 30100 * as.length := by
            have h8 := (words_ok ok _ wf w List.mem_cons_self).2.1
            have : ∀ as' : List Tm, (∀ a ∈ as', (textF (sub m) a).length ≤ 30100) → ((as'.map (textF (sub m))).map (·.length)).sum ≤ 30100 * as'.length := by
              intro as'
              induction as' with
              | nil => intro _; simp
              | cons a r ih =>
                intro h
                have h1 := h a List.mem_cons_self
                have h2 := ih fun b hb => h b (List.mem_cons_of_mem _ hb)
                simp only [List.map_cons, List.sum_cons, List.length_cons]
                omega
            have := this as fun a ha => by
              obtain ⟨q, hq1, rfl⟩ := hargs a ha
              have := pl.all q (by rw [← hd]; exact List.mem_append_left _ hq1)
              exact textF_len ok mok this.wf (by have := this.len; omega)
            simp only [List.map_append, List.map_cons, List.map_nil, List.sum_append, List.sum_cons, List.sum_nil]
            omega
          have hj : Txt.join spc ([w] ++ as.map (textF (sub m))) = textF (sub m) (.nd w as) := by
            rw [textF_nd, sub_not mok hL]; rfl
          refine ⟨le_size (by rw [args_nd]; omega), _, unS_map (w :: as.map (textF (sub m))), ?_, .inr (text (.nd w as)), rfl, lt_size (by omega), ?_⟩
          · rw [show (Str.ofString " ").length = 1 by decide]
            rw [List.singleton_append] at hsum
            simp only [List.length_cons, List.length_map]
            have e0 : (List.map (fun x => x.length) (w :: as.map (textF (sub m)))) = (w :: as.map (textF (sub m))).map (·.length) := rfl
            rw [e0]
            omega
          · have e1 : Txt.join (Str.ofString " ") (w :: as.map (textF (sub m))) = textF (sub m) (.nd w as) := hj
            rw [e1]
            exact ih _ ⟨_, _, _, d ++ [⟨.nd w as, ps⟩], rest, rfl, rfl, by rw [List.append_assoc]; exact hd, fin, finl⟩
end A
set_option maxHeartbeats 4000000
namespace A
open PySem L2 DL
theorem rngD0 (n : Nat) : rngD 0 n = (List.range' 0 n).map fun (i : Nat) => D.int (i : Int) := by
  unfold rngD
  rw [List.range_eq_range']
  refine List.map_congr_left fun i _ => ?_
  rw [Int.zero_add]
def sp_law_same_texts : SpD := fun as Qd _ => ∃ ys : List Str, as = [.d (.tup (ys.map .str)), .d (.lst (ys.map .str))] ∧ ys.length ≤ 1000 ∧ Qd (.d (.bl true)) []
theorem ok_law_same_texts (as : List Slot) (Qd Ed) (hl : as.length = 2) (h : sp_law_same_texts as Qd Ed) : m_law_same_texts (dEnds as Qd) (as ++ List.replicate 1 .un) (dWish as Ed) := by
  obtain ⟨ys, rfl, hlen, hq⟩ := h
  unfold m_law_same_texts
  simp [-List.lookup_eq_none_iff, -List.map_map]
  refine ⟨by omega, ?_⟩
  rw [rngD0]
  refine forD_ind (I := fun ds e => ∃ (x : Slot) (k n : Nat), e = [.d (.tup (ys.map .str)), .d (.lst (ys.map .str)), x] ∧ ds = (List.range' k n).map (fun (i : Nat) => D.int (i : Int)) ∧ k + n = ys.length) (fun e he => ?_) (fun d ds e ih he => ?_) _ _ ⟨.un, 0, ys.length, rfl, rfl, by omega⟩
  · obtain ⟨x, k, n, rfl, hr, hk⟩ := he
    simp
    exact hq
  · obtain ⟨x, k, n, rfl, hr, hk⟩ := he
    cases n with
    | zero => cases hr
    | succ n =>
      rw [List.range'_succ, List.map_cons] at hr
      obtain ⟨rfl, rfl⟩ := List.cons.inj hr
      simp [-List.lookup_eq_none_iff, -List.map_map, DL.atI_nat]
      have hk' : k < ys.length := by omega
      simp [hk']
      exact ih _ ⟨_, k + 1, n, rfl, rfl, by omega⟩
/-! ### spoilt -/
def sp_law_spoilt : SpD := fun as Qd _ => ∃ (a : Addr) (d : D) (n : Nat) (ts : List Tab) (t : Tm), as = [.own a d, .d (.tup (ts.map tabD)), .d (.str (text t))] ∧ stD d n ∧ n < 500000 ∧ TabsOk ts ∧ Wf ts t ∧ (words t).length ≤ 24 ∧
  ∀ (x : Str) (d' : D), x.length ≤ 1000 → stD d' (n + 20) → Qd (.d (.str x)) [d']
theorem cutD_to (ds : List D) (k : Nat) (h : k ≤ ds.length) : cutD ds none (some (k : Int)) = ds.take k := by
  unfold cutD
  rw [HT.sIx_nat, HT.sIx_none, Nat.min_eq_left h, List.drop_zero, Nat.sub_zero]
theorem cutD_from (ds : List D) (k : Nat) : cutD ds (some (k : Int)) none = ds.drop k := by
  unfold cutD
  rw [HT.sIx_nat, HT.sIx_none]
  by_cases h : k ≤ ds.length
  · rw [Nat.min_eq_left h, List.take_of_length_le (by simp)]
  · rw [Nat.min_eq_right (by omega), List.drop_length, List.drop_eq_nil_of_le (by omega)]
    simp
theorem ok_law_spoilt (as : List Slot) (Qd Ed) (hl : as.length = 3) (h : sp_law_spoilt as Qd Ed) : m_law_spoilt sp_law_next sp_law_name sp_law_letter (dEnds as Qd) (as ++ List.replicate 6 .un) (dWish as Ed) := by
  obtain ⟨a, d, n, ts, t, rfl, hd, hn, ok, wf, hlen, hq⟩ := h
  unfold m_law_spoilt
  have htl := text_len ok wf
  simp [-List.lookup_eq_none_iff, -List.map_map]
  refine ⟨by decide, by rw [sizeLine_eq]; omega, fun b hb => ?_⟩
  rw [show Txt.split (text t) (Str.ofString " ") = words t from spl_text ok wf]
  refine ⟨a, d, n, ((words t).length : Int) + 1, by simp, hd, by omega, by omega, by omega, fun r d1 h0 h1 hd1 => ?_⟩
  obtain ⟨k, rfl⟩ : ∃ k : Nat, r = k := ⟨r.toNat, by omega⟩
  simp [putB, -List.map_map]
  refine ⟨a, d1, n + 1, rfl, hd1, by omega, fun c d2 hc hd2 => ?_⟩
  simp [putB, -List.map_map]
  refine ⟨a, d2, n + 2, rfl, hd2, by omega, fun nm d3 hnm hd3 => ?_⟩
  simp [putB, -List.map_map]
  refine lc_map rfl (fun d => match d with | .tup (x :: _) => x | _ => .non) _ [] (fun dd hd' K hK => ?_) (by simp; have := ok.len; omega) ?_
  · obtain ⟨tb, htb, rfl⟩ := List.mem_map.mp hd'
    simp [wipeE, tabD]
    exact hK _ (by simp [rstE])
  · have e1 : ([] ++ (ts.map tabD).map fun d => match d with | .tup (x :: _) => x | _ => .non) = (ts.map (·.nm)).map D.str := by
      rw [List.nil_append, List.map_map, List.map_map]; rfl
    rw [e1]
    simp [-List.lookup_eq_none_iff, -List.map_map]
    have h6 := ok.len
    refine ⟨le_size (by omega), fun b2 hb2 => ?_⟩
    refine ⟨a, d3, n + 2 + 9, (ts.length : Int) + 1 + 1 + 1 + 1 + 1 + 1, rfl, hd3, by omega, by omega, by omega, fun r d4 h0 h1 hd4 => ?_⟩
    obtain ⟨k2, rfl⟩ : ∃ k : Nat, r = k := ⟨r.toNat, by omega⟩
    simp [putB, -List.map_map, DL.atI_nat]
    have hmenu : ∃ x : Str, (D.str c :: D.str (Str.ofString "") :: D.str (Str.ofString "Q") :: D.str (Str.ofString "p1") :: D.str (Str.ofString "Zz") :: D.str nm :: (ts.map (·.nm)).map D.str)[k2]? = some (.str x) ∧ x.length ≤ 8 := by
      have e : (D.str c :: D.str (Str.ofString "") :: D.str (Str.ofString "Q") :: D.str (Str.ofString "p1") :: D.str (Str.ofString "Zz") :: D.str nm :: (ts.map (·.nm)).map D.str) = (c :: Str.ofString "" :: Str.ofString "Q" :: Str.ofString "p1" :: Str.ofString "Zz" :: nm :: ts.map (·.nm)).map D.str := rfl
      have hk2 : k2 < (c :: Str.ofString "" :: Str.ofString "Q" :: Str.ofString "p1" :: Str.ofString "Zz" :: nm :: ts.map (·.nm)).length := by simp; omega
      rw [e, List.getElem?_map, List.getElem?_eq_getElem hk2]
      refine ⟨_, rfl, ?_⟩
      have hm := List.getElem_mem hk2
      generalize (c :: Str.ofString "" :: Str.ofString "Q" :: Str.ofString "p1" :: Str.ofString "Zz" :: nm :: ts.map (·.nm))[k2] = z at hm ⊢
      simp only [List.mem_cons] at hm
      rcases hm with rfl | rfl | rfl | rfl | rfl | rfl | hm
      · exact (okW_chr hc).2.1
      · decide
      · decide
      · decide
      · decide
      · exact hnm.2.1
      · obtain ⟨tb, htb, rfl⟩ := List.mem_map.mp hm
        exact (ok.all tb htb).nm.2.1
    obtain ⟨x, hx, hx8⟩ := hmenu
    refine ⟨.str x, hx, ?_⟩
    refine ⟨a, d4, n + 2 + 9 + 1, 4, rfl, hd4, by omega, by omega, by omega, fun r4 d5 h0 h1 hd5 => ?_⟩
    simp [putB, -List.map_map]
    have hw8 : ∀ y ∈ words t, y.length ≤ 8 := fun y hy => (words_ok ok t wf y hy).2.1
    have fin : ∀ zs : List Str, (∀ y ∈ zs, y.length ≤ 8) → zs.length ≤ 26 → (zs.map (·.length)).sum + zs.length * (Str.ofString " ").length ≤ 16777216 ∧ Qd (.d (.str (Txt.join (Str.ofString " ") zs))) [d5] := by
      intro zs h8 hz
      have m1 := meas_le h8
      have m2 := sum_meas zs
      have m3 := meas_len zs
      exact ⟨by rw [show (Str.ofString " ").length = 1 by decide]; omega, hq _ _ (by show (Txt.join spc zs).length ≤ 1000; omega) (stD_mono hd5 (by omega))⟩
    have hkl : k ≤ ((words t).map D.str).length := by rw [List.length_map]; omega
    have c1 : cutD ((words t).map D.str) none (some (k : Int)) = ((words t).take k).map D.str := by rw [cutD_to _ _ hkl, List.map_take]
    have c2 : cutD ((words t).map D.str) (some (k : Int)) none = ((words t).drop k).map D.str := by rw [cutD_from, List.map_drop]
    have c3 : cutD ((words t).map D.str) (some ((k : Int) + 1)) none = ((words t).drop (k + 1)).map D.str := by
      have := cutD_from ((words t).map D.str) (k + 1)
      rw [Int.natCast_add] at this
      rw [show (k : Int) + 1 = (k : Int) + ((1 : Nat) : Int) from rfl, this, List.map_drop]
    have ht8 : ∀ j, ∀ y ∈ (words t).take j, y.length ≤ 8 := fun j y hy => hw8 y (List.mem_of_mem_take hy)
    have hd8 : ∀ j, ∀ y ∈ (words t).drop j, y.length ≤ 8 := fun j y hy => hw8 y (List.mem_of_mem_drop hy)
    have hr : r4 = 0 ∨ r4 = 1 ∨ r4 = 2 ∨ r4 = 3 := by omega
    rcases hr with rfl | rfl | rfl | rfl
    · simp [-List.lookup_eq_none_iff, -List.map_map, c1, c2, c3]
      refine ⟨le_size (by omega), fun b3 _ => ⟨(words t).take k ++ (words t).drop (k + 1), by
        have := unS_map ((words t).take k ++ (words t).drop (k + 1))
        simpa [-List.map_map] using this, fin _ (fun y hy => ?_) (by simp; omega)⟩⟩
      rcases List.mem_append.mp hy with hy | hy
      · exact ht8 _ y hy
      · exact hd8 _ y hy
    · simp [-List.lookup_eq_none_iff, -List.map_map, c1, c2, c3]
      refine ⟨le_size (by omega), le_size (by omega), fun b3 _ => ⟨(words t).take k ++ x :: (words t).drop k, by
        have := unS_map ((words t).take k ++ x :: (words t).drop k)
        simpa [-List.map_map] using this, fin _ (fun y hy => ?_) (by simp; omega)⟩⟩
      rcases List.mem_append.mp hy with hy | hy
      · exact ht8 _ y hy
      · rcases List.mem_cons.mp hy with rfl | hy
        · exact hx8
        · exact hd8 _ y hy
    · simp [-List.lookup_eq_none_iff, -List.map_map, c1, c2, c3]
      refine ⟨le_size (by omega), le_size (by omega), fun b3 _ => ⟨(words t).take k ++ x :: (words t).drop k, by
        have := unS_map ((words t).take k ++ x :: (words t).drop k)
        simpa [-List.map_map] using this, fin _ (fun y hy => ?_) (by simp; omega)⟩⟩
      rcases List.mem_append.mp hy with hy | hy
      · exact ht8 _ y hy
      · rcases List.mem_cons.mp hy with rfl | hy
        · exact hx8
        · exact hd8 _ y hy
    · simp [-List.lookup_eq_none_iff, -List.map_map, c1, c2, c3]
      refine ⟨le_size (by omega), le_size (by omega), fun b3 _ => ⟨(words t).take k ++ x :: (words t).drop (k + 1), by
        have := unS_map ((words t).take k ++ x :: (words t).drop (k + 1))
        simpa [-List.map_map] using this, fin _ (fun y hy => ?_) (by simp; omega)⟩⟩
      rcases List.mem_append.mp hy with hy | hy
      · exact ht8 _ y hy
      · rcases List.mem_cons.mp hy with rfl | hy
        · exact hx8
        · exact hd8 _ y hy
end A
set_option maxHeartbeats 4000000
namespace A
open PySem L2 DL
def isUD (x : Slot) : Prop := x = .un ∨ ∃ d, x = .d d
def sp_law_pool : SpD := fun as Qd _ => ∃ (a : Addr) (d : D) (n : Nat) (ts : List Tab), as = [.own a d, .d (.tup (ts.map tabD))] ∧ stD d n ∧ n < 500000 ∧ TabsOk ts ∧
  ∀ (p : List Rec) (d' : D), Pl ts p → p ≠ [] → p.length ≤ 14 → stD d' (n + 200) → Qd (.d (.lst (p.map recD))) [d']
theorem text_one (l : Str) : text (.nd l []) = l := by rw [text_nd]; exact join_one l
theorem wfL_of {ts : List Tab} : ∀ {as : List Tm}, (∀ a ∈ as, Wf ts a) → WfL ts as
  | [], _ => trivial
  | a :: r, h => ⟨h a List.mem_cons_self, wfL_of fun b hb => h b (List.mem_cons_of_mem _ hb)⟩
theorem wordsL_len24 : ∀ {as : List Tm}, (∀ a ∈ as, (words a).length ≤ 24) → (wordsL as).length ≤ 24 * as.length
  | [], _ => by simp [wordsL]
  | a :: r, h => by
    have h1 := h a List.mem_cons_self
    have h2 := wordsL_len24 fun b hb => h b (List.mem_cons_of_mem (a := b) a hb)
    show (words a ++ wordsL r).length ≤ 24 * (a :: r).length
    rw [List.length_append, List.length_cons]
    omega
theorem rec_len {ts : List Tab} {r : Rec} (h : RecOk ts r) : r.ps.length ≤ 24 := by
  have := List.Nodup.length_le_of_subset h.nd (l₂ := prT r.t) fun x hx => (h.mem x).mp hx
  rw [prT_len] at this
  have := h.len
  omega
theorem tab_ix0 (tb : Tab) (k : D → Prop) : oIx (tabD tb) (.int 0) k = k (.str tb.nm) := by
  unfold tabD
  simp
theorem ok_law_pool (as : List Slot) (Qd Ed) (hl : as.length = 2) (h : sp_law_pool as Qd Ed) : m_law_pool sp_law_next sp_law_letter (dEnds as Qd) (as ++ List.replicate 11 .un) (dWish as Ed) := by
  obtain ⟨a, d, n, ts, rfl, hd, hn, ok, hq⟩ := h
  unfold m_law_pool
  simp [-List.lookup_eq_none_iff, -List.map_map]
  intro b hb
  refine ⟨a, d, n, 4, rfl, hd, by omega, by omega, by omega, fun r d1 h0 h1 hd1 => ?_⟩
  obtain ⟨k, rfl⟩ : ∃ k : Nat, r = k := ⟨r.toNat, by omega⟩
  simp [putB, -List.map_map]
  refine ⟨by omega, by omega, ?_⟩
  rw [show ((1 : Int) + (k : Int)).toNat = k + 1 by omega]
  refine forD_ind (I := fun ds e => ∃ (p : List Rec) (d : D) (x3 x4 : Slot), e = [.own a d, .d (.tup (ts.map tabD)), .own b (.lst (p.map recD)), x3, x4, .un, .un, .un, .un, .un, .un, .un, .un] ∧ Pl ts p ∧ p.length + ds.length = k + 1 ∧ stD d (n + 1 + p.length)) (fun e he => ?_) (fun dd ds e ih he => ?_) _ _ ⟨[], d1, .un, .un, rfl, .nil, by rw [rngD_len]; simp, hd1⟩
  · obtain ⟨p, d, x3, x4, rfl, pl, hlen, hd⟩ := he
    simp at hlen
    simp [-List.lookup_eq_none_iff, -List.map_map]
    refine ⟨a, d, n + 1 + p.length, 11, rfl, hd, by omega, by omega, by omega, fun r d2 h0 h1 hd2 => ?_⟩
    obtain ⟨k2, rfl⟩ : ∃ k : Nat, r = k := ⟨r.toNat, by omega⟩
    simp [putB, -List.map_map]
    have hne : p ≠ [] := by rintro rfl; simp at hlen
    have hpl4 : p.length ≤ 4 := by omega
    refine ⟨by omega, ?_⟩
    try rw [Int.toNat_natCast]
    refine forD_ind (I := fun ds e => ∃ (p : List Rec) (d : D) (x3 x4 x5 x6 x7 x8 x9 x10 x11 : Slot) (m : Nat), e = [.own a d, .d (.tup (ts.map tabD)), .own b (.lst (p.map recD)), x3, x4, x5, x6, x7, x8, x9, x10, x11, .un] ∧ isUD x11 ∧ Pl ts p ∧ p ≠ [] ∧ m + ds.length = k2 ∧ p.length ≤ 4 + m ∧ stD d (n + 6 + 7 * m)) (fun e he => ?_) (fun dd ds e ih he => ?_) _ _ ⟨p, d2, x3, x4, .un, .un, .un, .un, .un, .un, .un, 0, rfl, .inl rfl, pl, hne, by rw [rngD_len]; omega, by omega, stD_mono hd2 (by omega)⟩
    · obtain ⟨p, d, x3, x4, x5, x6, x7, x8, x9, x10, x11, m, rfl, ud, pl, hne, hm, hpl, hd⟩ := he
      simp at hm
      simp [-List.lookup_eq_none_iff, -List.map_map]
      exact hq p d pl hne (by omega) (stD_mono hd (by omega))
    · obtain ⟨p, d, x3, x4, x5, x6, x7, x8, x9, x10, x11, m, rfl, ud, pl, hne, hm, hpl, hd⟩ := he
      simp at hm
      have fin := ih
      simp [-List.lookup_eq_none_iff, -List.map_map]
      by_cases hts : ts = []
      · subst hts
        simp [-List.lookup_eq_none_iff, -List.map_map]
        exact hq p d pl hne (by omega) (stD_mono hd (by omega))
      · have htl : 1 ≤ ts.length := by cases ts with | nil => exact absurd rfl hts | cons _ _ => simp
        have h6 := ok.len
        rw [if_neg (by simpa using hts)]
        refine ⟨a, d, _, (ts.length : Int), rfl, hd, by omega, by omega, by omega, fun r d2 h0 h1 hd2 => ?_⟩
        obtain ⟨kt, rfl⟩ : ∃ k : Nat, r = k := ⟨r.toNat, by omega⟩
        have hkt : kt < ts.length := by omega
        simp [putB, -List.map_map, DL.atI_nat]
        refine ⟨tabD ts[kt], by simp [hkt], ?_⟩
        have htb := List.getElem_mem hkt
        generalize ts[kt] = tb at htb
        have htk := ok.all tb htb
        have hpl3 := htk.pl
        intro c hc
        simp [-List.lookup_eq_none_iff, -List.map_map, tabD]
        refine ⟨by omega, ?_⟩
        rw [rngD0]
        refine forD_ind (I := fun ds2 e => ∃ (qs : List Rec) (d : D) (x7 x8 : Slot) (j c2 : Nat), e = [.own a d, .d (.tup (ts.map tabD)), .own b (.lst (p.map recD)), .d dd, x4, .d (tabD tb), .own c (.lst (qs.map recD)), x7, x8, x9, x10, x11, .un] ∧ ds2 = (List.range' j c2).map (fun (i : Nat) => D.int (i : Int)) ∧ j + c2 = tb.pl ∧ qs.length = j ∧ (∀ q ∈ qs, q ∈ p) ∧ stD d (n + 6 + 7 * m + 1 + 2 * j)) (fun e he => ?_) (fun dd2 ds2 e ih2 he => ?_) _ _ ⟨[], d2, x7, x8, 0, tb.pl, rfl, rfl, by omega, rfl, (fun q hq => by cases hq), hd2⟩
        · obtain ⟨qs, d, x7, x8, j, c2, rfl, hr, hj, hqs, hqp, hd⟩ := he
          obtain rfl : c2 = 0 := by cases c2 with | zero => rfl | succ _ => cases hr
          have no11 : ∀ y0 y1 y2 y3 y4 y5 y6 y7 y8 y9 y10 y12 : Slot, noOwn [y0, y1, y2, y3, y4, y5, y6, y7, y8, y9, y10, x11, y12] [11] = true := by
            intro y0 y1 y2 y3 y4 y5 y6 y7 y8 y9 y10 y12
            rcases ud with rfl | ⟨z, rfl⟩ <;> rfl
          simp [-List.lookup_eq_none_iff, -List.map_map, tab_ix0]
          refine lc_map (no11 _ _ _ _ _ _ _ _ _ _ _ _) (fun d => match d with | .tup (x :: _) => x | _ => .non) (qs.map recD) [] (fun dd hd' K hK => ?_) (by simp; omega) ?_
          · obtain ⟨q, hq1, rfl⟩ := List.mem_map.mp hd'
            simp [wipeE, recD]
            exact hK _ (by simp [rstE])
          · have e1 : ([] ++ (qs.map recD).map fun d => match d with | .tup (x :: _) => x | _ => .non) = ((qs.map (fun (x : Rec) => x.t)).map text).map D.str := by
              rw [List.nil_append, List.map_map, List.map_map, List.map_map]; rfl
            rw [e1]
            simp [-List.lookup_eq_none_iff, -List.map_map]
            have wfa : ∀ t ∈ qs.map (fun (x : Rec) => x.t), Wf ts t ∧ (words t).length ≤ 24 := fun t ht => by
              obtain ⟨q, hq1, rfl⟩ := List.mem_map.mp ht
              exact ⟨(pl.all q (hqp q hq1)).wf, (pl.all q (hqp q hq1)).len⟩
            have wf : Wf ts (.nd tb.nm (qs.map (fun (x : Rec) => x.t))) := ⟨.inr ⟨tb, htb, rfl, by rw [List.length_map]; omega⟩, wfL_of fun t ht => (wfa t ht).1⟩
            have hwl : (words (.nd tb.nm (qs.map (fun (x : Rec) => x.t)))).length ≤ 73 := by
              have := wordsL_len24 fun t ht => (wfa t ht).2
              rw [List.length_map] at this
              show (tb.nm :: wordsL (qs.map (fun (x : Rec) => x.t))).length ≤ 73
              rw [List.length_cons]; omega
            have htx := text_len ok wf
            have etx : Txt.join (Str.ofString " ") (tb.nm :: (qs.map (fun (x : Rec) => x.t)).map text) = text (.nd tb.nm (qs.map (fun (x : Rec) => x.t))) := (text_nd _ _).symm
            refine ⟨le_size (by omega), _, unS_map (tb.nm :: (qs.map (fun (x : Rec) => x.t)).map text), ?_, by decide, by rw [etx, sizeLine_eq]; omega, ?_⟩
            · have m1 := sum_meas (tb.nm :: (qs.map (fun (x : Rec) => x.t)).map text)
              have m2 : meas (tb.nm :: (qs.map (fun (x : Rec) => x.t)).map text) ≤ (216 + 1) * (tb.nm :: (qs.map (fun (x : Rec) => x.t)).map text).length := meas_le fun x hx => by
                rcases List.mem_cons.mp hx with rfl | hx
                · have := htk.nm.2.1; omega
                · obtain ⟨t, ht, rfl⟩ := List.mem_map.mp hx
                  have := text_len ok (wfa t ht).1
                  have := (wfa t ht).2
                  omega
              rw [show (Str.ofString " ").length = 1 by decide]
              have e0 : (List.map (fun x => x.length) (tb.nm :: (qs.map (fun (x : Rec) => x.t)).map text)) = (tb.nm :: (qs.map (fun (x : Rec) => x.t)).map text).map (·.length) := rfl
              rw [e0]
              simp only [List.length_cons, List.length_map] at m1 m2 ⊢
              omega
            · rw [etx, show Txt.split (text (.nd tb.nm (qs.map (fun (x : Rec) => x.t)))) (Str.ofString " ") = words (.nd tb.nm (qs.map (fun (x : Rec) => x.t))) from spl_text ok wf]
              generalize htm : Tm.nd tb.nm (qs.map (fun (x : Rec) => x.t)) = tm at wf hwl htx ⊢
              split
              · rename_i h24
                intro c2 hc2
                refine forD_ind (I := fun ds3 e => ∃ (c3 : Addr) (x11 : Slot) (ps : List Str) (dn rest : List Rec), e = [.own a d, .d (.tup (ts.map tabD)), .own b (.lst (p.map recD)), .d dd, x4, .d (tabD tb), .d (.lst (qs.map recD)), x7, x8, .d (.str (text tm)), .own c3 (.lst (ps.map .str)), x11, .un] ∧ isUD x11 ∧ ds3 = rest.map recD ∧ dn ++ rest = qs ∧ ps.Nodup ∧ ps.length ≤ 1 + 24 * dn.length ∧ ∀ x, x ∈ ps ↔ x = text tm ∨ ∃ q ∈ dn, x ∈ q.ps) (fun e he => ?_) (fun dd3 ds3 e ih3 he => ?_) _ _ ⟨c2, x11, [text tm], [], qs, rfl, ud, rfl, rfl, by simp, by simp, by simp⟩
                · obtain ⟨c3, x11, ps, dn, rest, rfl, ud, hr, hd3, nd, hpsl, hm3⟩ := he
                  obtain rfl : rest = [] := by cases rest with | nil => rfl | cons _ _ => cases hr
                  rw [List.append_nil] at hd3
                  subst hd3
                  have no11 : ∀ y0 y1 y2 y3 y4 y5 y6 y7 y8 y9 y10 y12 : Slot, noOwn [y0, y1, y2, y3, y4, y5, y6, y7, y8, y9, y10, x11, y12] [11] = true := by
                    intro y0 y1 y2 y3 y4 y5 y6 y7 y8 y9 y10 y12
                    rcases ud with rfl | ⟨z, rfl⟩ <;> rfl
                  simp [-List.lookup_eq_none_iff, -List.map_map]
                  refine lc_map (no11 _ _ _ _ _ _ _ _ _ _ _ _) (fun d => match d with | .tup (x :: _) => x | _ => .non) (dn.map recD) [] (fun dd hd' K hK => ?_) (by simp; omega) ?_
                  · obtain ⟨q, hq1, rfl⟩ := List.mem_map.mp hd'
                    simp [wipeE, recD]
                    exact hK _ (by simp [rstE])
                  · have e1 : ([] ++ (dn.map recD).map fun d => match d with | .tup (x :: _) => x | _ => .non) = ((dn.map (fun (x : Rec) => x.t)).map text).map D.str := by
                      rw [List.nil_append, List.map_map, List.map_map, List.map_map]; rfl
                    rw [e1]
                    simp [-List.lookup_eq_none_iff, -List.map_map]
                    have rok : RecOk ts ⟨tm, ps⟩ := by
                      refine ⟨wf, by show (words tm).length ≤ 24; exact_mod_cast h24, nd, fun x => ?_⟩
                      show x ∈ ps ↔ x ∈ prT tm
                      rw [hm3, ← htm]
                      show _ ↔ x ∈ prL (dn.map (fun (x : Rec) => x.t)) ++ [text (.nd tb.nm (dn.map (fun (x : Rec) => x.t)))]
                      rw [List.mem_append, mem_prL, List.mem_singleton]
                      constructor
                      · rintro (h | ⟨q, hq1, hx⟩)
                        · exact .inr h
                        · exact .inl ⟨q.t, List.mem_map_of_mem hq1, ((pl.all q (hqp q hq1)).mem x).mp hx⟩
                      · rintro (⟨t, ht, hx⟩ | h)
                        · obtain ⟨q, hq1, rfl⟩ := List.mem_map.mp ht
                          exact .inr ⟨q, hq1, ((pl.all q (hqp q hq1)).mem x).mpr hx⟩
                        · exact .inl h
                    refine ⟨lt_size (by omega), ih _ ⟨p ++ [⟨tm, ps⟩], d, .d dd, x4, .d (tabD tb), .d (.lst (dn.map recD)), x7, x8, .d (.str (text tm)), .d (.lst (ps.map .str)), x11, m + 1, ?_, ud, pl.snoc rok fun t ht => ?_, by simp, by omega, by simp; omega, stD_mono hd (by omega)⟩⟩
                    · rw [← htm]
                      simp [recD, args_nd]
                    · have ht' : t ∈ args tm := ht
                      rw [← htm] at ht'
                      obtain ⟨q, hq1, rfl⟩ := List.mem_map.mp ht'
                      exact ⟨q, hqp q hq1, rfl⟩
                · obtain ⟨c3, x11, ps, dn, rest, rfl, ud, hr, hd3, nd, hpsl, hm3⟩ := he
                  cases rest with
                  | nil => cases hr
                  | cons r rest =>
                    rw [List.map_cons] at hr
                    obtain ⟨rfl, rfl⟩ := List.cons.inj hr
                    have rok := pl.all r (hqp r (by rw [← hd3]; simp))
                    have rl := rec_len rok
                    have hdn : dn.length ≤ 3 := by
                      have : (dn ++ r :: rest).length = qs.length := by rw [hd3]
                      simp at this
                      omega
                    simp [-List.lookup_eq_none_iff, -List.map_map, recD]
                    refine lc_filt rfl (fun d => match d with | .str x => !decide (x ∈ ps) | _ => false) id (r.ps.map .str) [] (fun dd hd' K hK => ?_) (by simp; omega) ?_
                    · obtain ⟨x, hx, rfl⟩ := List.mem_map.mp hd'
                      simp [wipeE, -List.map_map]
                      refine hK _ (fun K2 hK2 => ?_) (by simp [rstE])
                      simp
                      exact hK2 _ (by simp [rstE])
                    · have e1 : ([] ++ ((r.ps.map D.str).filter fun d => match d with | .str x => !decide (x ∈ ps) | _ => false).map id) = (r.ps.filter fun x => !decide (x ∈ ps)).map D.str := by
                        rw [List.nil_append, List.map_id, List.filter_map]; rfl
                      rw [e1]
                      simp [-List.lookup_eq_none_iff, -List.map_map]
                      have fl : (r.ps.filter fun x => !decide (x ∈ ps)).length ≤ 24 := Nat.le_trans (List.length_filter_le _ _) rl
                      refine ⟨le_size (by omega), fun c4 hc4 => ih3 _ ⟨c4, .d (recD r), ps ++ r.ps.filter fun x => !decide (x ∈ ps), dn ++ [r], rest, ?_, .inr ⟨_, rfl⟩, rfl, by rw [List.append_assoc]; exact hd3, ?_, by simp only [List.length_append, List.length_cons, List.length_nil]; omega, fun x => ?_⟩⟩
                      · simp [-List.lookup_eq_none_iff, -List.map_map, recD]
                      · rw [List.nodup_append]
                        refine ⟨nd, rok.nd.filter _, fun x hx y hy e => ?_⟩
                        subst e
                        have := (List.mem_filter.mp hy).2
                        simp [hx] at this
                      · rw [List.mem_append, List.mem_filter]
                        constructor
                        · rintro (h | ⟨h, _⟩)
                          · rcases (hm3 x).mp h with h | ⟨q, hq1, h⟩
                            · exact .inl h
                            · exact .inr ⟨q, List.mem_append_left _ hq1, h⟩
                          · exact .inr ⟨r, by simp, h⟩
                        · rintro (h | ⟨q, hq1, h⟩)
                          · exact .inl ((hm3 x).mpr (.inl h))
                          · rcases List.mem_append.mp hq1 with hq1 | hq1
                            · exact .inl ((hm3 x).mpr (.inr ⟨q, hq1, h⟩))
                            · obtain rfl : q = r := by simpa using hq1
                              by_cases hx : x ∈ ps
                              · exact .inl hx
                              · exact .inr ⟨h, by simp [hx]⟩
              · exact ih _ ⟨p, d, .d dd, x4, .d (tabD tb), .d (.lst (qs.map recD)), x7, x8, .d (.str (text tm)), x10, x11, m + 1, rfl, ud, pl, hne, by omega, by omega, stD_mono hd (by omega)⟩
        · obtain ⟨qs, d, x7, x8, j, c2, rfl, hr, hj, hqs, hqp, hd⟩ := he
          cases c2 with
          | zero => cases hr
          | succ c2 =>
            rw [List.range'_succ, List.map_cons] at hr
            obtain ⟨rfl, rfl⟩ := List.cons.inj hr
            have hp1 : 1 ≤ p.length := by cases p with | nil => exact absurd rfl hne | cons _ _ => simp
            simp [-List.lookup_eq_none_iff, -List.map_map]
            refine ⟨a, d, _, (p.length : Int), rfl, hd, by omega, by omega, by omega, fun r d3 h0 h1 hd3 => ?_⟩
            obtain ⟨at', rfl⟩ : ∃ k : Nat, r = k := ⟨r.toNat, by omega⟩
            simp [putB, -List.map_map]
            have app : ∀ (i : Nat) (x8 : Slot) (d4 : D), (hi : i < p.length) → stD d4 (n + 6 + 7 * m + 1 + 2 * (j + 1)) → _ := fun i x8 d4 hi hd4 => ih2 [.own a d4, .d (.tup (ts.map tabD)), .own b (.lst (p.map recD)), .d dd, x4, .d (tabD tb), .own c (.lst ((qs ++ [p[i]]).map recD)), .d (.int j), x8, x9, x10, x11, .un] ⟨qs ++ [p[i]], d4, _, _, j + 1, c2, rfl, rfl, by omega, by simp; omega, fun q hq => by
              rcases List.mem_append.mp hq with hq | hq
              · exact hqp q hq
              · obtain rfl : q = p[i] := by simpa using hq
                exact List.getElem_mem hi, hd4⟩
            split
            · refine ⟨a, d3, _, 2, rfl, hd3, by omega, by omega, by omega, fun r d4 h0 h1 hd4 => ?_⟩
              simp [putB, -List.map_map]
              split
              · have := app (p.length - 1) (.d (.int ((p.length : Int) - 1))) d4 (by omega) (stD_mono hd4 (by omega))
                simp [-List.lookup_eq_none_iff, -List.map_map] at this
                have e : atI (p.map recD) ((p.length : Int) - 1) = some (recD p[p.length - 1]) := by
                  rw [show (p.length : Int) - 1 = ((p.length - 1 : Nat) : Int) by omega, DL.atI_nat, List.getElem?_map, List.getElem?_eq_getElem (by omega)]; rfl
                exact ⟨_, e, lt_size (by omega), this⟩
              · have := app at' (.d (.int at')) d4 (by omega) (stD_mono hd4 (by omega))
                simp [-List.lookup_eq_none_iff, -List.map_map, DL.atI_nat] at this ⊢
                exact ⟨recD p[at'], ⟨_, List.getElem?_eq_getElem (by omega), rfl⟩, lt_size (by omega), this⟩
            · have := app at' (.d (.int at')) d3 (by omega) (stD_mono hd3 (by omega))
              simp [-List.lookup_eq_none_iff, -List.map_map, DL.atI_nat] at this ⊢
              exact ⟨recD p[at'], ⟨_, List.getElem?_eq_getElem (by omega), rfl⟩, lt_size (by omega), this⟩
  · obtain ⟨p, d, x3, x4, rfl, pl, hlen, hd⟩ := he
    simp at hlen
    simp [-List.lookup_eq_none_iff, -List.map_map]
    refine ⟨a, d, _, rfl, hd, by omega, fun u d2 hc hd2 => ?_⟩
    simp [putB, -List.map_map]
    have rok : RecOk ts ⟨.nd u [], [u]⟩ := by
      refine ⟨⟨.inl ⟨hc, rfl⟩, trivial⟩, by simp [words, wordsL], by simp, fun x => ?_⟩
      show x ∈ [u] ↔ x ∈ prL [] ++ [text (.nd u [])]
      rw [text_one]; simp [prL]
    refine ⟨lt_size (by omega), ih _ ⟨p ++ [⟨.nd u [], [u]⟩], d2, .d dd, .d (.str u), ?_, pl.snoc rok (fun a ha => by cases ha), by simp; omega, stD_mono hd2 (by simp; omega)⟩⟩
    simp [recD, text_one, args_nd]
end A
set_option maxHeartbeats 4000000
namespace A
open PySem L2 DL
/-! ### sorted lists are one -/
theorem str_ext {a b : Str} (h : a.cps.toList = b.cps.toList) : a = b := by rw [str_eta a, str_eta b, h]
theorem srt_eq {xs ys : List Str} (hx : xs.Nodup) (hy : ys.Nodup) (hm : ∀ x, x ∈ xs ↔ x ∈ ys) (sx : srtF xs) (sy : srtF ys) : xs = ys := by
  refine List.Perm.eq_of_pairwise (le := fun p q => klt (fkey q) (fkey p) = false) (fun a b _ _ h1 h2 => ?_) sx sy ((List.perm_ext_iff_of_nodup hx hy).mpr hm)
  have h := PyProof.Rows.lex_total (O := PyProof.Rows.itemOrd) (fkey b) (fkey a) h1 h2
  have h3 := (List.cons.inj (List.cons.inj h).2).1
  exact (str_ext (Sum.inr.inj h3)).symm
def lkey (t : Str) : KL := [.inl (spl t).length, .inr t.cps.toList]
theorem lkey_lt (p q : Str) : klt (lkey p) (lkey q) = klt (fkey p) (fkey q) := by
  unfold klt lkey fkey
  rw [PyProof.Rows.lex_cons, PyProof.Rows.lex_cons (O := PyProof.Rows.itemOrd) (.inl _)]
  have e : ∀ a b : Int, PyProof.Rows.itemOrd.blt (.inl a) (.inl b) = decide (a < b) := fun _ _ => rfl
  have e2 : ∀ a b : Int, decide (a - 1 < b - 1) = decide (a < b) := fun a b => by congr 1; simp
  rw [e, e, e, e, e2, e2]
theorem srtF_of {ys : List Str} (h : ys.Pairwise fun p q => klt (lkey q) (lkey p) = false) : srtF ys := h.imp fun {a b} hab => by rw [← lkey_lt]; exact hab
theorem rising_cons (p x : Str) (r) : PyProof.Rows.risingS p (x :: r) = (!PySem.Spec.ltCps x.cps.toList p.cps.toList && PyProof.Rows.risingS x r) := rfl
theorem rising_pw : ∀ {r : List Str} {p : Str}, PyProof.Rows.risingS p r = true → (p :: r).Pairwise fun a b => ¬ b.cps.toList < a.cps.toList
  | [], p, _ => by simp
  | x :: r, p, h => by
    rw [rising_cons, Bool.and_eq_true] at h
    have h1 : ¬ x.cps.toList < p.cps.toList := by
      have := h.1
      rw [PyProof.Rows.ltCps_eq] at this
      simpa using this
    have ih := rising_pw h.2
    refine List.pairwise_cons.mpr ⟨fun y hy => ?_, ih⟩
    rcases List.mem_cons.mp hy with rfl | hy
    · exact h1
    · have h2 := (List.pairwise_cons.mp ih).1 y hy
      exact fun h3 => by
        rcases PyProof.Rows.itemOrd.negTrans (.inr y.cps.toList) (.inr x.cps.toList) (.inr p.cps.toList) (by show decide _ = true; simpa using h3) with h4 | h4
        · exact h2 (by simpa using (show decide (y.cps.toList < x.cps.toList) = true from h4))
        · exact h1 (by simpa using (show decide (x.cps.toList < p.cps.toList) = true from h4))
theorem srtS_eq {xs ys : List Str} (hx : xs.Nodup) (hy : ys.Nodup) (hm : ∀ x, x ∈ xs ↔ x ∈ ys) (sx : PyProof.Rows.sortedS xs = true) (sy : PyProof.Rows.sortedS ys = true) : xs = ys := by
  have pw : ∀ {l : List Str}, PyProof.Rows.sortedS l = true → l.Pairwise fun a b => ¬ b.cps.toList < a.cps.toList := by
    intro l h
    cases l with
    | nil => simp
    | cons p r => exact rising_pw h
  refine List.Perm.eq_of_pairwise (le := fun a b : Str => ¬ b.cps.toList < a.cps.toList) (fun a b _ _ h1 h2 => ?_) (pw sx) (pw sy) ((List.perm_ext_iff_of_nodup hx hy).mpr hm)
  have h := PyProof.Rows.itemOrd.total (.inr a.cps.toList) (.inr b.cps.toList) (by show decide _ = false; simpa using h2) (by show decide _ = false; simpa using h1)
  exact str_ext (Sum.inr.inj h)
mutual
theorem letter_t {ts : List Tab} (ok : TabsOk ts) : ∀ (t : Tm), Wf ts t → ∀ x, isL x = true → (x ∈ prT t ↔ x ∈ words t)
  | .nd w as, h, x, hx => by
    show x ∈ prL as ++ [text (.nd w as)] ↔ x ∈ w :: wordsL as
    rw [List.mem_append, letter_L ok as h.2 x hx, List.mem_singleton, List.mem_cons]
    rcases wf_cases ok h with ⟨hL, rfl, ht⟩ | ⟨hL, hT, _⟩
    · rw [ht]; exact or_comm
    · constructor
      · rintro (h1 | rfl)
        · exact .inr h1
        · rw [hx] at hT; cases hT
      · rintro (rfl | h1)
        · rw [hx] at hL; cases hL
        · exact .inl h1
theorem letter_L {ts : List Tab} (ok : TabsOk ts) : ∀ (as : List Tm), WfL ts as → ∀ x, isL x = true → (x ∈ prL as ↔ x ∈ wordsL as)
  | [], _, x, _ => by simp [prL, wordsL]
  | a :: r, ⟨ha, hr⟩, x, hx => by
    show x ∈ prL r ++ prT a ↔ x ∈ words a ++ wordsL r
    rw [List.mem_append, List.mem_append, letter_L ok r hr x hx, letter_t ok a ha x hx]
    exact or_comm
end
end A
set_option maxHeartbeats 4000000
namespace A
open PySem L2 DL
theorem rec_ix0 (r : Rec) (k : D → Prop) : oIx (recD r) (.int 0) k = k (.str (text r.t)) := by
  unfold recD
  simp
theorem rec_ix1 (r : Rec) (k : D → Prop) : oIx (recD r) (.int 1) k = k (.tup (((args r.t).map text).map .str)) := by
  unfold recD
  simp
theorem rec_ix2 (r : Rec) (k : D → Prop) : oIx (recD r) (.int 2) k = k (.lst (r.ps.map .str)) := by
  unfold recD
  simp
theorem str_chr {ws : List Str} (h : ∀ w ∈ ws, ∀ c ∈ w.cps.toList, c < 1000) : ∀ c ∈ (Txt.join spc ws).cps.toList, c < 1000 := by
  induction ws with
  | nil => rw [show Txt.join spc [] = Str.ofString "" by rw [TL.join_eq]; rfl]; intro c hc; cases hc
  | cons w r ih =>
    cases r with
    | nil => rw [join_one]; exact h w List.mem_cons_self
    | cons x r =>
      rw [join_cons, cps_app, cps_app]
      intro c hc
      rcases List.mem_append.mp hc with hc | hc
      · rcases List.mem_append.mp hc with hc | hc
        · exact h w List.mem_cons_self c hc
        · have : c = 32 := by
            rw [show spc.cps.toList = [32] by decide +kernel] at hc
            simpa using hc
          omega
      · exact ih (fun v hv => h v (List.mem_cons_of_mem _ hv)) c hc
theorem ne_key (n : Int) (t : Str) (k : D → Prop) (hs : PyData.strOk t = true) (h : k (.bl false)) : oNeA (.tup [.int n, .str t]) (.tup [.int n, .str t]) k := by
  unfold oNeA
  rw [if_neg (by simp [scalD])]
  refine ⟨rfl, rfl, by simp [hs, toP, toPs, SeqAt.shaped, PyData.canLay0, PyData.canLayAll0, PyData.depth, PyData.depthAll], by simp [hs, toP, toPs, SeqAt.shaped, PyData.canLay0, PyData.canLayAll0, PyData.depth, PyData.depthAll], ?_⟩
  have e : PyData.eqv (toP (.tup [.int n, .str t])) (toP (.tup [.int n, .str t])) = true := by
    simp [toP, toPs, PyData.eqv, PyData.eqvAll]
  rw [e]; exact h
theorem text_strOk {ts : List Tab} (ok : TabsOk ts) {t : Tm} (h : Wf ts t) : PyData.strOk (text t) = true := by
  have := str_chr (ws := words t) fun w hw c hc => by have := (words_ok ok t h w hw).2.2 c hc; omega
  unfold PyData.strOk
  rw [← Array.all_toList, List.all_eq_true]
  intro c hc
  have := this c hc
  simp; omega
def sp_law_right_formula (c : Addr) : SpD := fun as Qd _ => ∃ (ts : List Tab) (z : D) (p : List Rec), as = [.d (matD c ts z), .d (.lst (p.map recD))] ∧ TabsOk ts ∧ Pl ts p ∧ p ≠ [] ∧ p.length ≤ 14 ∧ Qd (.d (.bl true)) []
theorem sortK_ok {ss : List Str} (h : ∀ s ∈ ss, s.length ≤ 4000) (Q : List Str → Prop) (hq : ∀ ss' : List Str, ss'.Perm ss → srtF ss' → Q ss') :
    ∃ ss0 : List Str, strsOf (.lst (ss.map .str)) = some ss0 ∧ ∃ key : Str → List D,
  (∃ shape : Nat → Bool, ∀ s, s ∈ ss0 → KItD shape 0 (key s) ∧ ¬ key s = [] ∧ sp_law_order [.d (.str s)] (fun r _ => r = .d (.tup (key s))) (fun _ _ _ => False)) ∧
  ∀ ss' : List Str, ss'.Perm ss0 → ss'.Pairwise (fun p q => klt ((key q).map keyK) ((key p).map keyK) = false) → Q ss' := by
  refine ⟨ss, unS_map ss, fun s => [D.int (spl s).length, D.str s], ⟨fun i => decide (i = 1), fun s hs => ⟨⟨by simp, by simp, trivial⟩, by simp, s, rfl, h s hs, rfl⟩⟩, fun ss' hp hs => ?_⟩
  exact hq ss' hp (srtF_of hs)
theorem args_len {ts : List Tab} (ok : TabsOk ts) : ∀ {t : Tm}, Wf ts t → (args t).length ≤ 3
  | .nd w as, h => by
    rw [args_nd]
    rcases wf_cases ok h with ⟨_, rfl, _⟩ | ⟨_, _, h3⟩
    · simp
    · exact h3
theorem ok_law_right_formula (c : Addr) (as : List Slot) (Qd Ed) (hl : as.length = 2) (h : sp_law_right_formula c as Qd Ed) : m_law_right_formula sp_law_order (sp_formula_fault c) (sp_is_formula c) sp_law_same_texts (sp_formula_arguments c) (sp_formula_parts c) (sp_all_parts c) sp_is_letter sp_formula_letters sp_formula_order sp_first_word (dEnds as Qd) (as ++ List.replicate 10 .un) (dWish as Ed) := by
  obtain ⟨ts, z, p, rfl, ok, pl, hne, hlen, hq⟩ := h
  unfold m_law_right_formula
  have hp1 : 1 ≤ p.length := by cases p with | nil => exact absurd rfl hne | cons _ _ => simp
  have ixl : atI (p.map recD) ((p.length : Int) - 1) = some (recD p[p.length - 1]) := by
    rw [show (p.length : Int) - 1 = ((p.length - 1 : Nat) : Int) by omega, DL.atI_nat, List.getElem?_map, List.getElem?_eq_getElem (by omega)]; rfl
  have ix0 : atI (p.map recD) 0 = some (recD p[0]) := by
    rw [show (0 : Int) = ((0 : Nat) : Int) from rfl, DL.atI_nat, List.getElem?_map, List.getElem?_eq_getElem (by omega)]; rfl
  have ixm : atI (p.map recD) ((p.length : Int) / 2) = some (recD p[p.length / 2]) := by
    rw [show (p.length : Int) / 2 = ((p.length / 2 : Nat) : Int) by omega, DL.atI_nat, List.getElem?_map, List.getElem?_eq_getElem (by omega)]; rfl
  have ml := List.getElem_mem (l := p) (n := p.length - 1) (by omega)
  have m0 := List.getElem_mem (l := p) (n := 0) (by omega)
  have mm := List.getElem_mem (l := p) (n := p.length / 2) (by omega)
  generalize p[p.length - 1] = rl at ixl ml
  generalize p[0] = r0 at ix0 m0
  generalize p[p.length / 2] = rm at ixm mm
  have okl := pl.all rl ml
  have ok0 := pl.all r0 m0
  have okm := pl.all rm mm
  have tl := text_len ok okl.wf
  have t0 := text_len ok ok0.wf
  have tm := text_len ok okm.wf
  have hl24 := okl.len
  have h024 := ok0.len
  have hm24 := okm.len
  have psl : ∀ s ∈ rl.ps, s.length ≤ 4000 := fun s hs => by
    have := prT_len8 ok _ okl.wf s ((okl.mem s).mp hs)
    omega
  simp [-List.lookup_eq_none_iff, -List.map_map, ixl, rec_ix0, rec_ix1, rec_ix2]
  refine sortK_ok psl _ fun due hp hs => ?_
  intro b hb
  refine ⟨ts, z, text rl.t, rfl, ok, by omega, ?_⟩
  rw [fault_text ok okl.wf]
  simp [-List.lookup_eq_none_iff, -List.map_map, optD]
  refine ⟨ts, z, .str (text rl.t), rfl, ok, ⟨_, rfl⟩, fun t ht => by cases ht; omega, ?_⟩
  simp [-List.lookup_eq_none_iff, -List.map_map, fault_text ok okl.wf]
  refine ⟨ts, z, rl.t, rfl, ok, okl.wf, by omega, ?_⟩
  simp [-List.lookup_eq_none_iff, -List.map_map]
  simp [-List.lookup_eq_none_iff, -List.map_map, rec_ix1]
  refine ⟨(args rl.t).map text, rfl, by rw [List.length_map]; have := args_len ok okl.wf; omega, ?_⟩
  simp [-List.lookup_eq_none_iff, -List.map_map]
  have dnd : due.Nodup := hp.nodup_iff.mpr okl.nd
  have dm : ∀ x, x ∈ due ↔ x ∈ prT rl.t := fun x => by rw [hp.mem_iff]; exact okl.mem x
  have dlen : due.length ≤ 24 := by rw [hp.length_eq]; exact rec_len okl
  refine ⟨ts, z, rl.t, rfl, ok, okl.wf, by omega, fun ys h1 h2 h3 => ?_⟩
  obtain rfl : ys = due := srt_eq h1 dnd (fun x => by rw [h2, dm]) h3 hs
  simp [-List.lookup_eq_none_iff, -List.map_map]
  refine ⟨ys, rfl, by omega, ?_⟩
  simp [-List.lookup_eq_none_iff, -List.map_map, ix0, ixl, ixm, rec_ix0, rec_ix1, rec_ix2]
  have cd : CDiv (p.length : Int) 2 := by
    first
      | exact ⟨by omega, by omega, by omega⟩
      | exact .inl ⟨by omega, by omega⟩
      | (constructor <;> omega)
  refine ⟨cd, fun a5 ha5 => ⟨cd, ?_⟩⟩
  refine forD_ind (I := fun ds e => ∃ (x6 x7 : Slot) (ps : List Str) (dn rest : List Rec), e = [.d (matD c ts z), .d (.lst (p.map recD)), .d (recD rl), .d (.str (text rl.t)), .d (.lst (ys.map .str)), .own a5 (.lst (([r0.t, rl.t, rm.t, rl.t].map text).map .str)), x6, x7, .un, .un, .un, .un] ∧ (x6 = .d (.lst (ps.map .str)) ∨ ∃ b, x6 = .own b (.lst (ps.map .str))) ∧ ds = rest.map recD ∧ dn ++ rest = [r0, rm] ∧ ps.Nodup ∧ ps.length ≤ 24 + 24 * dn.length ∧ ∀ x, x ∈ ps ↔ x ∈ prT rl.t ∨ ∃ q ∈ dn, x ∈ q.ps) (fun e he => ?_) (fun dd ds e ih he => ?_) _ _ ⟨_, .un, ys, [], [r0, rm], rfl, .inl rfl, rfl, rfl, dnd, by omega, fun x => by rw [dm]; simp⟩
  · obtain ⟨x6, x7, ps, dn, rest, rfl, hx6, hr, hd, nd, hpl, hm⟩ := he
    obtain rfl : rest = [] := by cases rest with | nil => rfl | cons _ _ => cases hr
    rw [List.append_nil] at hd
    subst hd
    have pm : ∀ x, x ∈ ps ↔ ∃ t ∈ [r0.t, rl.t, rm.t, rl.t], x ∈ prT t := fun x => by
      rw [hm]
      simp [ok0.mem, okm.mem]
      constructor
      · rintro (h | h | h)
        · exact .inr (.inl h)
        · exact .inl h
        · exact .inr (.inr (.inl h))
      · rintro (h | h | h | h)
        · exact .inr (.inl h)
        · exact .inl h
        · exact .inr (.inr h)
        · exact .inl h
    have ptrs : ∀ t ∈ [r0.t, rl.t, rm.t, rl.t], Wf ts t ∧ (words t).length ≤ 100 := fun t ht => by
      simp at ht
      rcases ht with rfl | rfl | rfl | rfl
      · exact ⟨ok0.wf, by omega⟩
      · exact ⟨okl.wf, by omega⟩
      · exact ⟨okm.wf, by omega⟩
      · exact ⟨okl.wf, by omega⟩
    have hp8 : ∀ s ∈ ps, s.length ≤ 4000 := fun s hs => by
      obtain ⟨t, ht, hx⟩ := (pm s).mp hs
      have := prT_len8 ok t (ptrs t ht).1 s hx
      have := (ptrs t ht).2
      omega
    have hpl' : ps.length ≤ 100 := by simp at hpl; omega
    rcases hx6 with rfl | ⟨b6, rfl⟩
    all_goals
      simp [-List.lookup_eq_none_iff, -List.map_map]
      refine ⟨ts, z, [r0.t, rl.t, rm.t, rl.t], rfl, ok, ptrs, by simp, fun zs h1 h2 h3 => ?_⟩
      simp [-List.lookup_eq_none_iff, -List.map_map]
      refine sortK_ok hp8 _ fun zs2 hp2 hs2 => ?_
      obtain rfl : zs = zs2 := srt_eq h1 (hp2.nodup_iff.mpr nd) (fun x => by rw [h2, hp2.mem_iff, pm]) h3 hs2
      refine ⟨zs, rfl, by rw [hp2.length_eq]; omega, ?_⟩
      simp [-List.lookup_eq_none_iff, -List.map_map]
      refine ⟨ts, z, [], rfl, ok, by simp, by simp, fun ws h1 h2 h3 => ?_⟩
      obtain rfl : ws = [] := by
        cases ws with
        | nil => rfl
        | cons w r => exact absurd ((h2 w).mp List.mem_cons_self) (by simp)
      simp [-List.lookup_eq_none_iff, -List.map_map]
      refine ⟨[], rfl, by simp, ?_⟩
      simp [-List.lookup_eq_none_iff, -List.map_map]
      refine lc_filt rfl (fun d => match d with | .str x => isL x | _ => false) id (ps.map .str) [] (fun dd hd' K hK => ?_) (by simp; omega) ?_
      · obtain ⟨x, hx, rfl⟩ := List.mem_map.mp hd'
        have hx8 := hp8 x hx
        simp [wipeE, -List.map_map]
        refine ⟨x, rfl, hx8, ?_⟩
        simp [-List.lookup_eq_none_iff, -List.map_map]
        refine hK _ (fun K2 hK2 => ?_) (by simp [rstE])
        simp
        exact hK2 _ (by simp [rstE])
      · have e1 : ([] ++ ((ps.map D.str).filter fun d => match d with | .str x => isL x | _ => false).map id) = (ps.filter isL).map D.str := by
          rw [List.nil_append, List.map_id, List.filter_map]; rfl
        rw [e1]
        have lnd : (ps.filter isL).Nodup := nd.filter _
        have lm : ∀ x, x ∈ ps.filter isL ↔ ∃ t ∈ [r0.t, rl.t, rm.t, rl.t], x ∈ words t ∧ isL x = true := fun x => by
          rw [List.mem_filter, pm]
          constructor
          · rintro ⟨⟨t, ht, hx⟩, hL⟩
            exact ⟨t, ht, (letter_t ok t (ptrs t ht).1 x hL).mp hx, hL⟩
          · rintro ⟨t, ht, hx, hL⟩
            exact ⟨⟨t, ht, (letter_t ok t (ptrs t ht).1 x hL).mpr hx⟩, hL⟩
        simp [-List.lookup_eq_none_iff, -List.map_map]
        refine .inl ⟨ps.filter isL, unS_map _, nodup_len lnd fun x hx => (List.mem_filter.mp hx).2, fun ls hlp hls => ?_⟩
        intro b8 hb8
        refine ⟨ts, [r0.t, rl.t, rm.t, rl.t], rfl, ok, ptrs, fun ls2 h1 h2 h3 => ?_⟩
        obtain rfl : ls2 = ls := srtS_eq h1 (hlp.nodup_iff.mpr lnd) (fun x => by rw [h2, hlp.mem_iff, lm]) h3 hls
        simp [-List.lookup_eq_none_iff, -List.map_map]
        refine ⟨ls2, rfl, by rw [hlp.length_eq]; have := List.length_filter_le isL ps; omega, ?_⟩
        simp [-List.lookup_eq_none_iff, -List.map_map]
        refine ⟨by decide, by rw [sizeLine_eq]; omega, fun a9 ha9 => ?_⟩
        rw [show Txt.split (text rl.t) (Str.ofString " ") = words rl.t from spl_text ok okl.wf]
        refine ⟨text rl.t, rfl, by omega, ?_⟩
        rw [spl_text ok okl.wf]
        simp [-List.lookup_eq_none_iff, -List.map_map, keyF]
        refine ne_key _ _ _ (text_strOk ok okl.wf) ?_
        simp [-List.lookup_eq_none_iff, -List.map_map]
        obtain ⟨w0, wr, hw0⟩ : ∃ w0 wr, words rl.t = w0 :: wr := by cases hw : words rl.t with | nil => exact absurd hw (words_ne _) | cons a b => exact ⟨a, b, rfl⟩
        refine ⟨text rl.t, w0, rfl, by omega, by rw [spl_text ok okl.wf, hw0]; rfl, ?_⟩
        rw [hw0]
        simp [-List.lookup_eq_none_iff, -List.map_map]
        exact hq
  · obtain ⟨x6, x7, ps, dn, rest, rfl, hx6, hr, hd, nd, hpl, hm⟩ := he
    cases rest with
    | nil => cases hr
    | cons r rest =>
      rw [List.map_cons] at hr
      obtain ⟨rfl, rfl⟩ := List.cons.inj hr
      have rok : RecOk ts r := by
        have : r ∈ [r0, rm] := by rw [← hd]; simp
        simp at this
        rcases this with rfl | rfl
        · exact ok0
        · exact okm
      have rlen := rec_len rok
      have hdn : dn.length ≤ 2 := by
        have := congrArg List.length hd
        simp at this
        omega
      have fl : (r.ps.filter fun x => !decide (x ∈ ps)).length ≤ 24 := Nat.le_trans (List.length_filter_le _ _) rlen
      have e1 : ([] ++ ((r.ps.map D.str).filter fun d => match d with | .str x => !decide (x ∈ ps) | _ => false).map id) = (r.ps.filter fun x => !decide (x ∈ ps)).map D.str := by
        rw [List.nil_append, List.map_id, List.filter_map]; rfl
      have fin : ∀ b, _ := fun b => ih [.d (matD c ts z), .d (.lst (p.map recD)), .d (recD rl), .d (.str (text rl.t)), .d (.lst (ys.map .str)), .own a5 (.lst (([r0.t, rl.t, rm.t, rl.t].map text).map .str)), .own b (.lst ((ps ++ r.ps.filter fun x => !decide (x ∈ ps)).map .str)), .d (recD r), .un, .un, .un, .un] ⟨.own b (.lst ((ps ++ r.ps.filter fun x => !decide (x ∈ ps)).map .str)), .d (recD r), ps ++ r.ps.filter fun x => !decide (x ∈ ps), dn ++ [r], rest, rfl, .inr ⟨b, rfl⟩, rfl, by rw [List.append_assoc]; exact hd, (by
          rw [List.nodup_append]
          refine ⟨nd, rok.nd.filter _, fun x hx y hy e => ?_⟩
          subst e
          have := (List.mem_filter.mp hy).2
          simp [hx] at this), (by simp only [List.length_append, List.length_cons, List.length_nil]; omega), fun x => (by
          rw [List.mem_append, List.mem_filter]
          constructor
          · rintro (h | ⟨h, _⟩)
            · rcases (hm x).mp h with h | ⟨q, hq1, h⟩
              · exact .inl h
              · exact .inr ⟨q, List.mem_append_left _ hq1, h⟩
            · exact .inr ⟨r, by simp, h⟩
          · rintro (h | ⟨q, hq1, h⟩)
            · exact .inl ((hm x).mpr (.inl h))
            · rcases List.mem_append.mp hq1 with hq1 | hq1
              · exact .inl ((hm x).mpr (.inr ⟨q, hq1, h⟩))
              · obtain rfl : q = r := by simpa using hq1
                by_cases hx : x ∈ ps
                · exact .inl hx
                · exact .inr ⟨h, by simp [hx]⟩)⟩
      rcases hx6 with rfl | ⟨b6, rfl⟩
      all_goals
        simp [-List.lookup_eq_none_iff, -List.map_map, rec_ix2]
        refine lc_filt rfl (fun d => match d with | .str x => !decide (x ∈ ps) | _ => false) id (r.ps.map .str) [] (fun dd hd' K hK => ?_) (by simp; omega) ?_
        · obtain ⟨x, hx, rfl⟩ := List.mem_map.mp hd'
          simp [wipeE, -List.map_map]
          refine hK _ (fun K2 hK2 => ?_) (by simp [rstE])
          simp
          exact hK2 _ (by simp [rstE])
        · rw [e1]
          simp [-List.lookup_eq_none_iff, -List.map_map]
          refine ⟨le_size (by omega), fun b hb => ?_⟩
          have := fin b
          simpa [-List.map_map] using this
end A
set_option maxHeartbeats 4000000
namespace A
open PySem L2 DL
/-! ### the law -/
def mput (m : List (Str × Str)) (w v : Str) : List (Str × Str) := if m.any (fun p => decide (p.1 = w)) then m.map (fun p => if p.1 = w then (p.1, v) else p) else m ++ [(w, v)]
theorem byD_put (m : List (Str × Str)) (w v : Str) : dPut (byD m) (.inr w) (.str v) = byD (mput m w v) := by
  have ha : (byD m).any (fun kv => decide (kv.1 = .inr w)) = m.any (fun p => decide (p.1 = w)) := by
    unfold byD
    rw [List.any_map]
    congr 1
    funext p
    show decide ((Sum.inr p.1 : Key) = .inr w) = decide (p.1 = w)
    simp
  unfold dPut mput
  rw [ha]
  split
  · unfold byD
    rw [List.map_map, List.map_map]
    refine List.map_congr_left fun p _ => ?_
    show (if (Sum.inr p.1 : Key) = .inr w then _ else _) = _
    by_cases h : p.1 = w
    · rw [if_pos (by rw [h])]
      show _ = ((fun p : Str × Str => ((Sum.inr p.1 : Key), D.str p.2)) (if p.1 = w then (p.1, v) else p))
      rw [if_pos h]
    · rw [if_neg (fun z => h (Sum.inr.inj z))]
      show _ = ((fun p : Str × Str => ((Sum.inr p.1 : Key), D.str p.2)) (if p.1 = w then (p.1, v) else p))
      rw [if_neg h]
  · unfold byD; simp
theorem MOk.put {m : List (Str × Str)} (h : MOk m) {w v : Str} (hw : isL w = true) (hv : v.length ≤ 300) : MOk (mput m w v) := by
  unfold mput
  split
  · refine ⟨fun p hp => ?_, fun p hp => ?_⟩ <;> obtain ⟨q, hq, rfl⟩ := List.mem_map.mp hp <;> split
    · exact h.keys q hq
    · exact h.keys q hq
    · exact hv
    · exact h.vals q hq
  · refine ⟨fun p hp => ?_, fun p hp => ?_⟩ <;> rcases List.mem_append.mp hp with hp | hp
    · exact h.keys p hp
    · obtain rfl : p = (w, v) := by simpa using hp
      exact hw
    · exact h.vals p hp
    · obtain rfl : p = (w, v) := by simpa using hp
      exact hv
theorem mput_len (m w v) : (mput m w v).length ≤ m.length + 1 := by
  unfold mput
  split <;> simp
/-! ### pairs of texts, sorted -/
def prD (d : D) : Prop := ∃ a b : Str, d = .tup [.str a, .str b] ∧ PyData.strOk a = true ∧ PyData.strOk b = true
def kdP : D → List D
  | .tup l => l
  | _ => []
def srtP (ds : List D) : Prop := ds.Pairwise fun p q => klt ((kdP q).map keyK) ((kdP p).map keyK) = false
theorem pr_sort {ds : List D} (h : ∀ d ∈ ds, prD d) {k : D → Prop} (q : ∀ ds' : List D, ds'.Perm ds → srtP ds' → k (.lst ds')) : oSorted (.lst ds) k := by
  refine .inr ⟨ds, fun _ => true, kdP, rfl, fun d hd => ?_, q⟩
  obtain ⟨a, b, rfl, _, _⟩ := h d hd
  exact ⟨rfl, ⟨rfl, rfl, trivial⟩, by simp [kdP]⟩
theorem pr_eq {ds xs ys : List D} (h : ∀ d ∈ ds, prD d) (hx : xs.Perm ds) (hy : ys.Perm ds) (sx : srtP xs) (sy : srtP ys) : xs = ys := by
  refine List.Perm.eq_of_pairwise (le := fun p q => klt ((kdP q).map keyK) ((kdP p).map keyK) = false) (fun a b ha hb h1 h2 => ?_) sx sy (hx.trans hy.symm)
  obtain ⟨a1, a2, rfl, _, _⟩ := h a (hx.mem_iff.mp ha)
  obtain ⟨b1, b2, rfl, _, _⟩ := h b (hy.mem_iff.mp hb)
  have h := PyProof.Rows.lex_total (O := PyProof.Rows.itemOrd) _ _ h1 h2
  have h3 := (List.cons.inj h).1
  have h4 := (List.cons.inj (List.cons.inj h).2).1
  rw [str_ext (Sum.inr.inj h3), str_ext (Sum.inr.inj h4)]
theorem pr_lay : ∀ {ds : List D}, (∀ d ∈ ds, prD d) → PyData.canLayAll0 (toPs ds) = true ∧ PyData.depthAll (toPs ds) ≤ 1 ∧ isPs ds = true
  | [], _ => by simp [toPs, PyData.canLayAll0, PyData.depthAll, isPs]
  | d :: ds, h => by
    obtain ⟨h1, h2, h3⟩ := pr_lay fun x hx => h x (List.mem_cons_of_mem _ hx)
    obtain ⟨a, b, rfl, ha, hb⟩ := h d List.mem_cons_self
    simp [toPs, toP, PyData.canLayAll0, PyData.canLay0, PyData.depthAll, PyData.depth, isPs, isP, ha, hb, h1, h2, h3]
theorem pr_ne {ds : List D} (h : ∀ d ∈ ds, prD d) {k : D → Prop} (q : k (.bl false)) : oNeA (.lst ds) (.lst ds) k := by
  obtain ⟨h1, h2, h3⟩ := pr_lay h
  unfold oNeA
  rw [if_neg (by simp [scalD])]
  have lay : (toP (.lst ds)).canLay0 = true := by simp [toP, PyData.canLay0, h1]
  have sh : SeqAt.shaped (toP (.lst ds)) = true := by
    unfold SeqAt.shaped
    rw [lay]
    simp [toP, PyData.depth]
    omega
  refine ⟨by simp [isP, h3], by simp [isP, h3], sh, sh, ?_⟩
  rw [SeqAt.eqv_refl _ lay]
  exact q
theorem isL_strOk {w : Str} (h : isL w = true) : PyData.strOk w = true := by
  have := isL_alph h
  unfold alph at this
  obtain ⟨c, hc, rfl⟩ := List.mem_map.mp this
  rw [List.mem_range'_1] at hc
  unfold PyData.strOk
  simp
  omega
theorem mget_any {m : List (Str × Str)} {w : Str} (h : m.any (fun p => decide (p.1 = w)) = true) : ∃ v, mget m w = some v := by
  unfold mget
  cases e : m.find? fun p => decide (p.1 = w) with
  | some p => exact ⟨p.2, rfl⟩
  | none =>
    rw [List.find?_eq_none] at e
    rw [List.any_eq_true] at h
    obtain ⟨x, hx, h⟩ := h
    exact absurd h (e x hx)
theorem mget_self {m : List (Str × Str)} {p : Str × Str} (h : p ∈ m) : mget m p.1 = some (sub m p.1) := by
  obtain ⟨v, hv⟩ := mget_any (m := m) (w := p.1) (List.any_eq_true.mpr ⟨p, h, by simp⟩)
  unfold sub
  rw [hv]; rfl
/-- the items of a dict as pairs -/
def prs (m : List (Str × Str)) : List D := m.map fun p => .tup [.str p.1, .str (sub m p.1)]
theorem prs_pr {m : List (Str × Str)} (mok : MOk m) (hv : ∀ p ∈ m, PyData.strOk p.2 = true) : ∀ d ∈ prs m, prD d := by
  intro d hd
  obtain ⟨p, hp, rfl⟩ := List.mem_map.mp hd
  refine ⟨p.1, _, rfl, isL_strOk (mok.keys p hp), ?_⟩
  exact hv _ (mget_mem (mget_self hp))
theorem mput_strOk {m : List (Str × Str)} {w v : Str} (h : ∀ p ∈ m, PyData.strOk p.2 = true) (hv : PyData.strOk v = true) : ∀ p ∈ mput m w v, PyData.strOk p.2 = true := by
  unfold mput
  split
  · intro p hp
    obtain ⟨q, hq, rfl⟩ := List.mem_map.mp hp
    split
    · exact hv
    · exact h q hq
  · intro p hp
    rcases List.mem_append.mp hp with hp | hp
    · exact h p hp
    · obtain rfl : p = (w, v) := by simpa using hp
      exact hv
theorem slotDct_or {e : En} {i : Nat} {a : Addr} {kvs : List (Key × D)} {k : List (Key × D) → Prop} (h : e[i]? = some (.own a (.dct kvs)) ∨ e[i]? = some (.d (.dct kvs))) (q : k kvs) : slotDct e i k := by
  unfold slotDct
  rcases h with h | h <;> rw [h] <;> exact q
theorem no_formula {c : Addr} {ts : List Tab} {z dd : D} {Qd : Slot → List D → Prop} {Ed} (ok : TabsOk ts) (hn : ∃ n, tyD dd = some n) (hs : ∀ t, dd ≠ .str t) (q : Qd (.d (.bl false)) []) : sp_is_formula c [.d (matD c ts z), .d dd] Qd Ed := by
  refine ⟨ts, z, dd, rfl, ok, hn, fun t ht => absurd ht (hs t), ?_⟩
  cases dd <;> first | exact q | exact absurd rfl (hs _)
def sp_law : SpD := fun as Qd _ => ∃ zs : List Int, as = [.d (.scr (zs.map .int))] ∧ Qd (.d (.bl true)) []
theorem ok_law (c : Addr) (as : List Slot) (Qd Ed) (hl : as.length = 1) (h : sp_law as Qd Ed) : m_law c sp_law_tables sp_law_stream sp_law_cell (sp_Matrix_init c) sp_law_pool (sp_law_right_formula c) sp_is_letter sp_law_next sp_law_images sp_put sp_law_spoilt sp_law_fault sp_law_same_integer (sp_formula_fault c) (sp_is_formula c) (sp_law_needed c) (dEnds as Qd) (as ++ List.replicate 18 .un) (dWish as Ed) := by
  obtain ⟨zs, rfl, hq⟩ := h
  unfold m_law
  simp [-List.lookup_eq_none_iff, -List.map_map]
  refine ⟨zs, 0, rfl, by omega, fun c0 => ?_⟩
  simp [-List.lookup_eq_none_iff, -List.map_map]
  refine ⟨c0, rfl, fun a0 d0 hd0 => ?_⟩
  simp [-List.lookup_eq_none_iff, -List.map_map]
  intro a1 ha1
  refine ⟨a1, d0, 0, rfl, hd0, by omega, fun ts d1 ok hd1 => ?_⟩
  simp [-List.lookup_eq_none_iff, -List.map_map]
  intro am ham
  refine ⟨am, ts, rfl, ok, fun z => ?_⟩
  simp [-List.lookup_eq_none_iff, -List.map_map]
  intro aM haM
  refine ⟨zs, 1, rfl, by omega, fun c1 => ?_⟩
  simp [-List.lookup_eq_none_iff, -List.map_map]
  refine ⟨c1, rfl, fun a2 d2 hd2 => ?_⟩
  simp [-List.lookup_eq_none_iff, -List.map_map]
  intro a3 ha3
  refine ⟨a3, d2, 0, ts, rfl, hd2, by omega, ok, fun p d3 pl hne hlen hd3 => ?_⟩
  simp [putB, -List.map_map]
  refine ⟨ts, z, p, rfl, ok, pl, hne, hlen, ?_⟩
  simp [putB, -List.map_map]
  have hp1 : 1 ≤ p.length := by cases p with | nil => exact absurd rfl hne | cons _ _ => simp
  have ixl : atI (p.map recD) ((p.length : Int) - 1) = some (recD p[p.length - 1]) := by
    rw [show (p.length : Int) - 1 = ((p.length - 1 : Nat) : Int) by omega, DL.atI_nat, List.getElem?_map, List.getElem?_eq_getElem (by omega)]; rfl
  have ml := List.getElem_mem (l := p) (n := p.length - 1) (by omega)
  generalize p[p.length - 1] = rl at ixl ml
  have okl := pl.all rl ml
  have tl := text_len ok okl.wf
  have hl24 := okl.len
  simp [-List.lookup_eq_none_iff, -List.map_map, ixl, rec_ix0]
  refine ⟨zs, 2, rfl, by omega, fun c2 => ?_⟩
  simp [-List.lookup_eq_none_iff, -List.map_map]
  refine ⟨c2, rfl, fun a4 d4 hd4 => ?_⟩
  simp [-List.lookup_eq_none_iff, -List.map_map]
  intro a5 ha5 a6 ha6
  refine forD_ind (I := fun ds e => ∃ (d : D) (x7 : Slot) (m : List (Str × Str)) (dn rest : List Rec), e = [.d (.scr (zs.map .int)), .d (.tup (ts.map tabD)), .d (matD c ts z), .own a5 d, .d (.lst (p.map recD)), .d (.str (text rl.t)), .own a6 (.dct (byD m)), x7, .un, .un, .un, .un, .un, .un, .un, .un, .un, .un, .un] ∧ ds = rest.map recD ∧ dn ++ rest = p ∧ MOk m ∧ (∀ p ∈ m, PyData.strOk p.2 = true) ∧ m.length ≤ dn.length ∧ stD d (2 * dn.length)) (fun e he => ?_) (fun dd ds e ih he => ?_) _ _ ⟨d4, .un, [], [], p, rfl, rfl, rfl, ⟨by simp, by simp⟩, by simp, by simp, hd4⟩
  · obtain ⟨d, x7, m, dn, rest, rfl, hr, hd, mok, mst, mlen, hst⟩ := he
    obtain rfl : rest = [] := by cases rest with | nil => rfl | cons _ _ => cases hr
    rw [List.append_nil] at hd
    subst hd
    simp [-List.lookup_eq_none_iff, -List.map_map]
    refine ⟨ts, dn, m, rfl, ok, pl, by omega, mok, fun IM him => ?_⟩
    simp [-List.lookup_eq_none_iff, -List.map_map, slotDct, mKeysV]
    have e1 : ([] ++ ((byD m).map fun kv => keyOfD kv.1).map (fun d => match d with | .str s => .tup [.str s, .str (sub m s)] | _ => .non)) = prs m := by simp [byD, prs, keyOfD]
    refine lc_map rfl (fun d => match d with | .str s => .tup [.str s, .str (sub m s)] | _ => .non) _ [] (fun dd hd' K hK => ?_) (by simp [byD]; omega) ?_
    · obtain ⟨q, hq1, rfl⟩ := List.mem_map.mp hd'
      obtain ⟨p, hp, rfl⟩ := List.mem_map.mp hq1
      simp [wipeE, keyOfD, keyD, oDGet, byD_get, mget_self hp]
      exact hK _ (by simp [rstE])
    · rw [e1]
      refine pr_sort (prs_pr mok mst) fun ks hks sks => ?_
      intro b9 hb9
      simp [-List.lookup_eq_none_iff, -List.map_map]
      intro b10 hb10
      refine forD_ind (I := fun ds e => ∃ (x7 x10 x11 : Slot) (rest : List Rec), e = [.d (.scr (zs.map .int)), .d (.tup (ts.map tabD)), .d (matD c ts z), .own a5 d, .d (.lst (dn.map recD)), .d (.str (text rl.t)), .d (.dct (byD m)), x7, .d (.dct IM), .own b9 (.lst ks), x10, x11, .un, .un, .un, .un, .un, .un, .un] ∧ ds = rest.map recD ∧ (∀ r ∈ rest, r ∈ dn) ∧ (x10 = .own b10 (.dct (byD m)) ∨ x10 = .d (.dct (byD m)))) (fun e he => ?_) (fun dd ds e ih he => ?_) _ _ ⟨x7, _, .un, dn, rfl, rfl, fun _ h => h, .inl rfl⟩
      · obtain ⟨x7, x10, x11, rest, rfl, hr, hd, hx10⟩ := he
        · simp [-List.lookup_eq_none_iff, -List.map_map]
          refine slotDct_or (a := b10) (kvs := byD m) (by rcases hx10 with rfl | rfl <;> simp) ?_
          simp [-List.lookup_eq_none_iff, -List.map_map, mKeysV]
          refine lc_map rfl (fun d => match d with | .str s => .tup [.str s, .str (sub m s)] | _ => .non) _ [] (fun dd hd' K hK => ?_) (by simp [byD]; omega) ?_
          · obtain ⟨q, hq1, rfl⟩ := List.mem_map.mp hd'
            obtain ⟨p, hp, rfl⟩ := List.mem_map.mp hq1
            simp [wipeE, keyOfD, keyD, oDGet, byD_get, mget_self hp]
            exact hK _ (by simp [rstE])
          rw [e1]
          refine pr_sort (prs_pr mok mst) fun ks2 hks2 sks2 => ?_
          obtain rfl : ks = ks2 := pr_eq (prs_pr mok mst) hks hks2 sks sks2
          simp [-List.lookup_eq_none_iff, -List.map_map]
          refine pr_ne (fun d hd => prs_pr mok mst d (hks.mem_iff.mp hd)) ?_
          simp [-List.lookup_eq_none_iff, -List.map_map]
          refine ⟨zs, 3, rfl, by omega, fun c3 => ?_⟩
          simp [-List.lookup_eq_none_iff, -List.map_map]
          refine ⟨c3, rfl, fun a7 d7 hd7 => ?_⟩
          simp [-List.lookup_eq_none_iff, -List.map_map]
          intro a8 ha8
          refine forD_ind (I := fun ds e => ∃ (d : D) (x12 x13 x14 x15 x16 : Slot), e = [.d (.scr (zs.map .int)), .d (.tup (ts.map tabD)), .d (matD c ts z), .own a8 d, .d (.lst (dn.map recD)), .d (.str (text rl.t)), .d (.dct (byD m)), x7, .d (.dct IM), .own b9 (.lst ks), .d (.dct (byD m)), x11, x12, x13, x14, x15, x16, .un, .un] ∧ stD d (100 - 20 * ds.length) ∧ ds.length ≤ 3) (fun e he => ?_) (fun dd ds e ih he => ?_) _ _ ⟨d7, .un, .un, .un, .un, .un, rfl, stD_mono hd7 (by omega), by simp [rngD]⟩
          · obtain ⟨d, x12, x13, x14, x15, x16, rfl, hst, _⟩ := he
            simp [-List.lookup_eq_none_iff, -List.map_map]
            refine forD_ind (I := fun ds e => ∃ (x17 : Slot), e = [.d (.scr (zs.map .int)), .d (.tup (ts.map tabD)), .d (matD c ts z), .own a8 d, .d (.lst (dn.map recD)), .d (.str (text rl.t)), .d (.dct (byD m)), x7, .d (.dct IM), .own b9 (.lst ks), .d (.dct (byD m)), x11, x12, x13, x14, x15, x16, x17, .un] ∧ ∀ d ∈ ds, (∃ n, tyD d = some n) ∧ ∀ t, d ≠ .str t) (fun e he => ?_) (fun dd ds e ih he => ?_) _ _ ⟨.un, rfl, by simp [tyD]⟩
            · obtain ⟨x17, rfl, _⟩ := he
              simp [-List.lookup_eq_none_iff, -List.map_map]
              exact hq
            · obtain ⟨x17, rfl, hds⟩ := he
              obtain ⟨hn, hs⟩ := hds dd List.mem_cons_self
              simp [-List.lookup_eq_none_iff, -List.map_map]
              refine no_formula ok hn hs ?_
              simp [-List.lookup_eq_none_iff, -List.map_map]
              exact ih _ ⟨_, rfl, fun d hd => hds d (List.mem_cons_of_mem _ hd)⟩
          · obtain ⟨d, x12, x13, x14, x15, x16, rfl, hst, hl3⟩ := he
            simp at hl3 hst
            simp [-List.lookup_eq_none_iff, -List.map_map]
            refine ⟨a8, d, _, ts, rl.t, rfl, hst, by omega, ok, okl.wf, hl24, fun sx d8 hsx hd8 => ?_⟩
            simp [putB, -List.map_map]
            refine ⟨ts, sx, rfl, ok, by omega, ?_⟩
            simp [-List.lookup_eq_none_iff, -List.map_map]
            refine ⟨ts, z, sx, rfl, ok, by omega, ?_⟩
            simp [-List.lookup_eq_none_iff, -List.map_map]
            refine ⟨fault ts sx, rfl, ?_⟩
            simp [-List.lookup_eq_none_iff, -List.map_map]
            refine ⟨ts, z, .str sx, rfl, ok, ⟨_, rfl⟩, fun t ht => by cases ht; omega, ?_⟩
            simp [-List.lookup_eq_none_iff, -List.map_map]
            refine ⟨ts, z, sx, rfl, ok, by omega, ?_⟩
            simp [-List.lookup_eq_none_iff, -List.map_map]
            refine ⟨fault ts sx, rfl, ?_⟩
            simp [-List.lookup_eq_none_iff, -List.map_map]
            exact ih _ ⟨_, _, _, _, _, _, rfl, stD_mono hd8 (by omega), by omega⟩
      · obtain ⟨x7, x10, x11, rest, rfl, hr, hd, hx10⟩ := he
        cases rest with
        | nil => cases hr
        | cons r rest =>
          rw [List.map_cons] at hr
          obtain ⟨rfl, rfl⟩ := List.cons.inj hr
          have rm : r ∈ dn := hd r List.mem_cons_self
          have rok := pl.all r rm
          have rl24 := rok.len
          have hir := him r rm
          rcases hx10 with rfl | rfl
          all_goals
            simp [-List.lookup_eq_none_iff, -List.map_map, rec_ix0]
            refine ⟨ts, r.t, m, rfl, ok, rok.wf, by omega, mok, ?_⟩
            simp [-List.lookup_eq_none_iff, -List.map_map, rec_ix0, oDGet, keyD, hir]
            exact ih _ ⟨_, _, _, rest, rfl, rfl, fun q hq => hd q (List.mem_cons_of_mem _ hq), .inr rfl⟩
  · obtain ⟨d, x7, m, dn, rest, rfl, hr, hd, mok, mst, mlen, hst⟩ := he
    cases rest with
    | nil => cases hr
    | cons r rest =>
      rw [List.map_cons] at hr
      obtain ⟨rfl, rfl⟩ := List.cons.inj hr
      have rm : r ∈ p := by rw [← hd]; simp
      have rok := pl.all r rm
      have rtl := text_len ok rok.wf
      have rl24 := rok.len
      have hdn : dn.length < 14 := by
        have := congrArg List.length hd
        simp at this
        omega
      simp [-List.lookup_eq_none_iff, -List.map_map, rec_ix0]
      refine ⟨text r.t, rfl, by omega, ?_⟩
      have skip : ∀ d, stD d (2 * (dn.length + 1)) → _ := fun d hd' => ih [.d (.scr (zs.map .int)), .d (.tup (ts.map tabD)), .d (matD c ts z), .own a5 d, .d (.lst (p.map recD)), .d (.str (text rl.t)), .own a6 (.dct (byD m)), .d (recD r), .un, .un, .un, .un, .un, .un, .un, .un, .un, .un, .un] ⟨d, _, m, dn ++ [r], rest, rfl, rfl, by rw [List.append_assoc]; exact hd, mok, mst, by simp; omega, by simpa using hd'⟩
      cases hL : isL (text r.t) with
      | false =>
        simp [-List.lookup_eq_none_iff, -List.map_map]
        exact skip d (stD_mono hst (by omega))
      | true =>
        simp [-List.lookup_eq_none_iff, -List.map_map]
        refine ⟨a5, d, _, 4, rfl, hst, by omega, by omega, by omega, fun r4 d5 h0 h1 hd5 => ?_⟩
        simp [putB, -List.map_map]
        split
        · refine ⟨a5, d5, _, (p.length : Int), rfl, hd5, by omega, by omega, by omega, fun rp d6 h0 h1 hd6 => ?_⟩
          obtain ⟨k, rfl⟩ : ∃ k : Nat, rp = k := ⟨rp.toNat, by omega⟩
          simp [putB, -List.map_map, DL.atI_nat]
          have hk : k < p.length := by omega
          have hkm := List.getElem_mem hk
          have hkx : p[k]? = some p[k] := List.getElem?_eq_getElem hk
          generalize p[k] = rk at hkm hkx
          have okk := pl.all rk hkm
          have tlk := text_len ok okk.wf
          have hlk := okk.len
          refine ⟨recD rk, ⟨rk, hkx, rfl⟩, ?_⟩
          simp [-List.lookup_eq_none_iff, -List.map_map, rec_ix0, keyD]
          rw [byD_put]
          have ml1 := mput_len m (text r.t) (text rk.t)
          refine ⟨lt_size (by simp [byD]; omega), ih _ ⟨d6, .d (recD r), mput m (text r.t) (text rk.t), dn ++ [r], rest, rfl, rfl, by rw [List.append_assoc]; exact hd, mok.put hL (by omega), mput_strOk mst (text_strOk ok okk.wf), by simp; omega, stD_mono hd6 (by simp; omega)⟩⟩
        · exact skip d5 (stD_mono hd5 (by omega))
end A
set_option maxHeartbeats 4000000
namespace A
open PySem PySem.Spec PyProof.Rows L2 DL
section
variable {P : Program} {w : World} {K : PySem.W.Frag} {mg : Str → Option Value} {base : Heap}
theorem fd_is_letter {c_Matrix f : Addr} {fd : FuncData} (T : Txt K mg c_Matrix)  (F : Fun K "is_letter" "is_letter" s_is_letter f fd) (b : Binds K fd ps_is_letter []) (at_ : mg "is_letter" = some (.ref f)) (kp : PySem.W.keepIn K (.ref f) = true) : Def P w K mg base "is_letter" f ps_is_letter 1 sp_is_letter :=
  ⟨⟨fd, fnD_of F sc_is_letter (fun cdv A outer s H E hr => dv_is_letter T  cdv A outer s H E hr) (fun as Qd Ed hl h => by apply ok_is_letter <;> assumption), b⟩, at_, kp⟩
theorem fd_first_word {c_Matrix f : Addr} {fd : FuncData} (T : Txt K mg c_Matrix)  (F : Fun K "first_word" "first_word" s_first_word f fd) (b : Binds K fd ps_first_word []) (at_ : mg "first_word" = some (.ref f)) (kp : PySem.W.keepIn K (.ref f) = true) : Def P w K mg base "first_word" f ps_first_word 1 sp_first_word :=
  ⟨⟨fd, fnD_of F sc_first_word (fun cdv A outer s H E hr => dv_first_word T  cdv A outer s H E hr) (fun as Qd Ed hl h => by apply ok_first_word <;> assumption), b⟩, at_, kp⟩
theorem fd_is_value {c_Matrix f : Addr} {fd : FuncData} (T : Txt K mg c_Matrix)  (F : Fun K "is_value" "is_value" s_is_value f fd) (b : Binds K fd ps_is_value []) (at_ : mg "is_value" = some (.ref f)) (kp : PySem.W.keepIn K (.ref f) = true) : Def P w K mg base "is_value" f ps_is_value 1 sp_is_value :=
  ⟨⟨fd, fnD_of F sc_is_value (fun cdv A outer s H E hr => dv_is_value T  cdv A outer s H E hr) (fun as Qd Ed hl h => by apply ok_is_value <;> assumption), b⟩, at_, kp⟩
theorem fd_is_sign {c_Matrix a_is_value f : Addr} {fd : FuncData} (T : Txt K mg c_Matrix) (D_is_value : Def P w K mg base "is_value" a_is_value ps_is_value 1 sp_is_value) (F : Fun K "is_sign" "is_sign" s_is_sign f fd) (b : Binds K fd ps_is_sign []) (at_ : mg "is_sign" = some (.ref f)) (kp : PySem.W.keepIn K (.ref f) = true) : Def P w K mg base "is_sign" f ps_is_sign 2 sp_is_sign :=
  ⟨⟨fd, fnD_of F sc_is_sign (fun cdv A outer s H E hr => dv_is_sign T D_is_value cdv A outer s H E hr) (fun as Qd Ed hl h => by apply ok_is_sign <;> assumption), b⟩, at_, kp⟩
theorem fd_row_count {c_Matrix f : Addr} {fd : FuncData} (T : Txt K mg c_Matrix)  (F : Fun K "row_count" "row_count" s_row_count f fd) (b : Binds K fd ps_row_count []) (at_ : mg "row_count" = some (.ref f)) (kp : PySem.W.keepIn K (.ref f) = true) : Def P w K mg base "row_count" f ps_row_count 1 sp_row_count :=
  ⟨⟨fd, fnD_of F sc_row_count (fun cdv A outer s H E hr => dv_row_count T  cdv A outer s H E hr) (fun as Qd Ed hl h => by apply ok_row_count <;> assumption), b⟩, at_, kp⟩
theorem fd_is_name {c_Matrix f : Addr} {fd : FuncData} (T : Txt K mg c_Matrix)  (F : Fun K "is_name" "is_name" s_is_name f fd) (b : Binds K fd ps_is_name []) (at_ : mg "is_name" = some (.ref f)) (kp : PySem.W.keepIn K (.ref f) = true) : Def P w K mg base "is_name" f ps_is_name 1 sp_is_name :=
  ⟨⟨fd, fnD_of F sc_is_name (fun cdv A outer s H E hr => dv_is_name T  cdv A outer s H E hr) (fun as Qd Ed hl h => by apply ok_is_name <;> assumption), b⟩, at_, kp⟩
theorem fd_is_table {c_Matrix a_row_count a_is_sign f : Addr} {fd : FuncData} (T : Txt K mg c_Matrix) (D_row_count : Def P w K mg base "row_count" a_row_count ps_row_count 1 sp_row_count) (D_is_sign : Def P w K mg base "is_sign" a_is_sign ps_is_sign 2 sp_is_sign) (F : Fun K "is_table" "is_table" s_is_table f fd) (b : Binds K fd ps_is_table []) (at_ : mg "is_table" = some (.ref f)) (kp : PySem.W.keepIn K (.ref f) = true) : Def P w K mg base "is_table" f ps_is_table 3 sp_is_table :=
  ⟨⟨fd, fnD_of F sc_is_table (fun cdv A outer s H E hr => dv_is_table T D_row_count D_is_sign cdv A outer s H E hr) (fun as Qd Ed hl h => by apply ok_is_table <;> assumption), b⟩, at_, kp⟩
theorem fd_loose_table {c_Matrix f : Addr} {fd : FuncData} (T : Txt K mg c_Matrix)  (F : Fun K "loose_table" "loose_table" s_loose_table f fd) (b : Binds K fd ps_loose_table []) (at_ : mg "loose_table" = some (.ref f)) (kp : PySem.W.keepIn K (.ref f) = true) : Def P w K mg base "loose_table" f ps_loose_table 1 sp_loose_table :=
  ⟨⟨fd, fnD_of F sc_loose_table (fun cdv A outer s H E hr => dv_loose_table T  cdv A outer s H E hr) (fun as Qd Ed hl h => by apply ok_loose_table <;> assumption), b⟩, at_, kp⟩
theorem fd_matrix_fault {c_Matrix a_is_sign a_is_name a_is_table f : Addr} {fd : FuncData} (T : Txt K mg c_Matrix) (D_is_sign : Def P w K mg base "is_sign" a_is_sign ps_is_sign 2 sp_is_sign) (D_is_name : Def P w K mg base "is_name" a_is_name ps_is_name 1 sp_is_name) (D_is_table : Def P w K mg base "is_table" a_is_table ps_is_table 3 sp_is_table) (F : Fun K "matrix_fault" "matrix_fault" s_matrix_fault f fd) (b : Binds K fd ps_matrix_fault []) (at_ : mg "matrix_fault" = some (.ref f)) (kp : PySem.W.keepIn K (.ref f) = true) : Def P w K mg base "matrix_fault" f ps_matrix_fault 4 sp_matrix_fault :=
  ⟨⟨fd, fnD_of F sc_matrix_fault (fun cdv A outer s H E hr => dv_matrix_fault T D_is_sign D_is_name D_is_table cdv A outer s H E hr) (fun as Qd Ed hl h => by apply ok_matrix_fault <;> assumption), b⟩, at_, kp⟩
theorem fd_law_cell {c_Matrix f : Addr} {fd : FuncData} (T : Txt K mg c_Matrix)  (F : Fun K "_law_cell" "_law_cell" s_law_cell f fd) (b : Binds K fd ps_law_cell []) (at_ : mg "_law_cell" = some (.ref f)) (kp : PySem.W.keepIn K (.ref f) = true) : Def P w K mg base "_law_cell" f ps_law_cell 1 sp_law_cell :=
  ⟨⟨fd, fnD_of F sc_law_cell (fun cdv A outer s H E hr => dv_law_cell T  cdv A outer s H E hr) (fun as Qd Ed hl h => by apply ok_law_cell <;> assumption), b⟩, at_, kp⟩
theorem fd_law_stream {c_Matrix f : Addr} {fd : FuncData} (T : Txt K mg c_Matrix)  (F : Fun K "_law_stream" "_law_stream" s_law_stream f fd) (b : Binds K fd ps_law_stream []) (at_ : mg "_law_stream" = some (.ref f)) (kp : PySem.W.keepIn K (.ref f) = true) : Def P w K mg base "_law_stream" f ps_law_stream 1 sp_law_stream :=
  ⟨⟨fd, fnD_of F sc_law_stream (fun cdv A outer s H E hr => dv_law_stream T  cdv A outer s H E hr) (fun as Qd Ed hl h => by apply ok_law_stream <;> assumption), b⟩, at_, kp⟩
theorem fd_law_next {c_Matrix f : Addr} {fd : FuncData} (T : Txt K mg c_Matrix)  (F : Fun K "_law_next" "_law_next" s_law_next f fd) (b : Binds K fd ps_law_next []) (at_ : mg "_law_next" = some (.ref f)) (kp : PySem.W.keepIn K (.ref f) = true) : Def P w K mg base "_law_next" f ps_law_next 1 sp_law_next :=
  ⟨⟨fd, fnD_of F sc_law_next (fun cdv A outer s H E hr => dv_law_next T  cdv A outer s H E hr) (fun as Qd Ed hl h => by apply ok_law_next <;> assumption), b⟩, at_, kp⟩
theorem fd_law_letter {c_Matrix a_law_next f : Addr} {fd : FuncData} (T : Txt K mg c_Matrix) (D_law_next : Def P w K mg base "_law_next" a_law_next ps_law_next 1 sp_law_next) (F : Fun K "_law_letter" "_law_letter" s_law_letter f fd) (b : Binds K fd ps_law_letter []) (at_ : mg "_law_letter" = some (.ref f)) (kp : PySem.W.keepIn K (.ref f) = true) : Def P w K mg base "_law_letter" f ps_law_letter 2 sp_law_letter :=
  ⟨⟨fd, fnD_of F sc_law_letter (fun cdv A outer s H E hr => dv_law_letter T D_law_next cdv A outer s H E hr) (fun as Qd Ed hl h => by apply ok_law_letter <;> assumption), b⟩, at_, kp⟩
theorem fd_law_name {c_Matrix a_law_next a_law_letter f : Addr} {fd : FuncData} (T : Txt K mg c_Matrix) (D_law_next : Def P w K mg base "_law_next" a_law_next ps_law_next 1 sp_law_next) (D_law_letter : Def P w K mg base "_law_letter" a_law_letter ps_law_letter 2 sp_law_letter) (F : Fun K "_law_name" "_law_name" s_law_name f fd) (b : Binds K fd ps_law_name []) (at_ : mg "_law_name" = some (.ref f)) (kp : PySem.W.keepIn K (.ref f) = true) : Def P w K mg base "_law_name" f ps_law_name 3 sp_law_name :=
  ⟨⟨fd, fnD_of F sc_law_name (fun cdv A outer s H E hr => dv_law_name T D_law_next D_law_letter cdv A outer s H E hr) (fun as Qd Ed hl h => by apply ok_law_name <;> assumption), b⟩, at_, kp⟩
theorem fd_law_tables {c_Matrix a_law_next a_law_name f : Addr} {fd : FuncData} (T : Txt K mg c_Matrix) (D_law_next : Def P w K mg base "_law_next" a_law_next ps_law_next 1 sp_law_next) (D_law_name : Def P w K mg base "_law_name" a_law_name ps_law_name 3 sp_law_name) (F : Fun K "_law_tables" "_law_tables" s_law_tables f fd) (b : Binds K fd ps_law_tables []) (at_ : mg "_law_tables" = some (.ref f)) (kp : PySem.W.keepIn K (.ref f) = true) : Def P w K mg base "_law_tables" f ps_law_tables 4 sp_law_tables :=
  ⟨⟨fd, fnD_of F sc_law_tables (fun cdv A outer s H E hr => dv_law_tables T D_law_next D_law_name cdv A outer s H E hr) (fun as Qd Ed hl h => by apply ok_law_tables <;> assumption), b⟩, at_, kp⟩
theorem fd_law_order {c_Matrix f : Addr} {fd : FuncData} (T : Txt K mg c_Matrix)  (F : Fun K "_law_order" "_law_order" s_law_order f fd) (b : Binds K fd ps_law_order []) (at_ : mg "_law_order" = some (.ref f)) (kp : PySem.W.keepIn K (.ref f) = true) : Def P w K mg base "_law_order" f ps_law_order 1 sp_law_order :=
  ⟨⟨fd, fnD_of F sc_law_order (fun cdv A outer s H E hr => dv_law_order T  cdv A outer s H E hr) (fun as Qd Ed hl h => by apply ok_law_order <;> assumption), b⟩, at_, kp⟩
theorem fd_law_is_letter {c_Matrix f : Addr} {fd : FuncData} (T : Txt K mg c_Matrix)  (F : Fun K "_law_is_letter" "_law_is_letter" s_law_is_letter f fd) (b : Binds K fd ps_law_is_letter []) (at_ : mg "_law_is_letter" = some (.ref f)) (kp : PySem.W.keepIn K (.ref f) = true) : Def P w K mg base "_law_is_letter" f ps_law_is_letter 1 sp_is_letter :=
  ⟨⟨fd, fnD_of F sc_law_is_letter (fun cdv A outer s H E hr => dv_law_is_letter T  cdv A outer s H E hr) (fun as Qd Ed hl h => by apply ok_law_is_letter <;> assumption), b⟩, at_, kp⟩
theorem fd_law_fault {c_Matrix a_law_is_letter f : Addr} {fd : FuncData} (T : Txt K mg c_Matrix) (D_law_is_letter : Def P w K mg base "_law_is_letter" a_law_is_letter ps_law_is_letter 1 sp_is_letter) (F : Fun K "_law_fault" "_law_fault" s_law_fault f fd) (b : Binds K fd ps_law_fault []) (at_ : mg "_law_fault" = some (.ref f)) (kp : PySem.W.keepIn K (.ref f) = true) : Def P w K mg base "_law_fault" f ps_law_fault 2 sp_law_fault :=
  ⟨⟨fd, fnD_of F sc_law_fault (fun cdv A outer s H E hr => dv_law_fault T D_law_is_letter cdv A outer s H E hr) (fun as Qd Ed hl h => by apply ok_law_fault <;> assumption), b⟩, at_, kp⟩
theorem fd_law_same_integer {c_Matrix f : Addr} {fd : FuncData} (T : Txt K mg c_Matrix)  (F : Fun K "_law_same_integer" "_law_same_integer" s_law_same_integer f fd) (b : Binds K fd ps_law_same_integer []) (at_ : mg "_law_same_integer" = some (.ref f)) (kp : PySem.W.keepIn K (.ref f) = true) : Def P w K mg base "_law_same_integer" f ps_law_same_integer 1 sp_law_same_integer :=
  ⟨⟨fd, fnD_of F sc_law_same_integer (fun cdv A outer s H E hr => dv_law_same_integer T  cdv A outer s H E hr) (fun as Qd Ed hl h => by apply ok_law_same_integer <;> assumption), b⟩, at_, kp⟩
theorem fd_law_same_texts {c_Matrix f : Addr} {fd : FuncData} (T : Txt K mg c_Matrix)  (F : Fun K "_law_same_texts" "_law_same_texts" s_law_same_texts f fd) (b : Binds K fd ps_law_same_texts []) (at_ : mg "_law_same_texts" = some (.ref f)) (kp : PySem.W.keepIn K (.ref f) = true) : Def P w K mg base "_law_same_texts" f ps_law_same_texts 1 sp_law_same_texts :=
  ⟨⟨fd, fnD_of F sc_law_same_texts (fun cdv A outer s H E hr => dv_law_same_texts T  cdv A outer s H E hr) (fun as Qd Ed hl h => by apply ok_law_same_texts <;> assumption), b⟩, at_, kp⟩
theorem fd_Matrix_places {c_Matrix x_NoConnective f : Addr} {fd : FuncData} (T : Txt K mg c_Matrix) (X_NoConnective : XDef P w K mg base "NoConnective" x_NoConnective "name") (F : Fun K "places" "Matrix.places" s_Matrix_places f fd) (b : Binds K fd ps_Matrix_places []) (mt : Meth K c_Matrix "places" f) : MDef P w K mg base c_Matrix "places" f ps_Matrix_places 3 (sp_Matrix_places c_Matrix) :=
  ⟨⟨fd, fnD_of F sc_Matrix_places (fun cdv A outer s H E hr => dv_Matrix_places T X_NoConnective cdv A outer s H E hr) (fun as Qd Ed hl h => by apply ok_Matrix_places <;> assumption), b⟩, mt, T.cl_Matrix⟩
theorem fd_formula_fault {c_Matrix a_is_letter a_Matrix_places f : Addr} {fd : FuncData} (T : Txt K mg c_Matrix) (D_is_letter : Def P w K mg base "is_letter" a_is_letter ps_is_letter 1 sp_is_letter) (D_Matrix_places : MDef P w K mg base c_Matrix "places" a_Matrix_places ps_Matrix_places 3 (sp_Matrix_places c_Matrix)) (F : Fun K "formula_fault" "formula_fault" s_formula_fault f fd) (b : Binds K fd ps_formula_fault []) (at_ : mg "formula_fault" = some (.ref f)) (kp : PySem.W.keepIn K (.ref f) = true) : Def P w K mg base "formula_fault" f ps_formula_fault 4 (sp_formula_fault c_Matrix) :=
  ⟨⟨fd, fnD_of F sc_formula_fault (fun cdv A outer s H E hr => dv_formula_fault T D_is_letter D_Matrix_places cdv A outer s H E hr) (fun as Qd Ed hl h => by apply ok_formula_fault <;> assumption), b⟩, at_, kp⟩
theorem fd_formula_arguments {c_Matrix a_is_letter a_Matrix_places f : Addr} {fd : FuncData} (T : Txt K mg c_Matrix) (D_is_letter : Def P w K mg base "is_letter" a_is_letter ps_is_letter 1 sp_is_letter) (D_Matrix_places : MDef P w K mg base c_Matrix "places" a_Matrix_places ps_Matrix_places 3 (sp_Matrix_places c_Matrix)) (F : Fun K "formula_arguments" "formula_arguments" s_formula_arguments f fd) (b : Binds K fd ps_formula_arguments []) (at_ : mg "formula_arguments" = some (.ref f)) (kp : PySem.W.keepIn K (.ref f) = true) : Def P w K mg base "formula_arguments" f ps_formula_arguments 4 (sp_formula_arguments c_Matrix) :=
  ⟨⟨fd, fnD_of F sc_formula_arguments (fun cdv A outer s H E hr => dv_formula_arguments T D_is_letter D_Matrix_places cdv A outer s H E hr) (fun as Qd Ed hl h => by apply ok_formula_arguments <;> assumption), b⟩, at_, kp⟩
theorem fd_is_formula {c_Matrix a_formula_fault f : Addr} {fd : FuncData} (T : Txt K mg c_Matrix) (D_formula_fault : Def P w K mg base "formula_fault" a_formula_fault ps_formula_fault 4 (sp_formula_fault c_Matrix)) (F : Fun K "is_formula" "is_formula" s_is_formula f fd) (b : Binds K fd ps_is_formula []) (at_ : mg "is_formula" = some (.ref f)) (kp : PySem.W.keepIn K (.ref f) = true) : Def P w K mg base "is_formula" f ps_is_formula 5 (sp_is_formula c_Matrix) :=
  ⟨⟨fd, fnD_of F sc_is_formula (fun cdv A outer s H E hr => dv_is_formula T D_formula_fault cdv A outer s H E hr) (fun as Qd Ed hl h => by apply ok_is_formula <;> assumption), b⟩, at_, kp⟩
theorem fd_formula_order {c_Matrix f : Addr} {fd : FuncData} (T : Txt K mg c_Matrix)  (F : Fun K "formula_order" "formula_order" s_formula_order f fd) (b : Binds K fd ps_formula_order []) (at_ : mg "formula_order" = some (.ref f)) (kp : PySem.W.keepIn K (.ref f) = true) : Def P w K mg base "formula_order" f ps_formula_order 1 sp_formula_order :=
  ⟨⟨fd, fnD_of F sc_formula_order (fun cdv A outer s H E hr => dv_formula_order T  cdv A outer s H E hr) (fun as Qd Ed hl h => by apply ok_formula_order <;> assumption), b⟩, at_, kp⟩
theorem fd_formula_letters {c_Matrix a_is_letter f : Addr} {fd : FuncData} (T : Txt K mg c_Matrix) (D_is_letter : Def P w K mg base "is_letter" a_is_letter ps_is_letter 1 sp_is_letter) (F : Fun K "formula_letters" "formula_letters" s_formula_letters f fd) (b : Binds K fd ps_formula_letters []) (at_ : mg "formula_letters" = some (.ref f)) (kp : PySem.W.keepIn K (.ref f) = true) : Def P w K mg base "formula_letters" f ps_formula_letters 2 sp_formula_letters :=
  ⟨⟨fd, fnD_of F sc_formula_letters (fun cdv A outer s H E hr => dv_formula_letters T D_is_letter cdv A outer s H E hr) (fun as Qd Ed hl h => by apply ok_formula_letters <;> assumption), b⟩, at_, kp⟩
theorem fd_put {c_Matrix f : Addr} {fd : FuncData} (T : Txt K mg c_Matrix)  (F : Fun K "put" "put" s_put f fd) (b : Binds K fd ps_put []) (at_ : mg "put" = some (.ref f)) (kp : PySem.W.keepIn K (.ref f) = true) : Def P w K mg base "put" f ps_put 1 sp_put :=
  ⟨⟨fd, fnD_of F sc_put (fun cdv A outer s H E hr => dv_put T  cdv A outer s H E hr) (fun as Qd Ed hl h => by apply ok_put <;> assumption), b⟩, at_, kp⟩
theorem fd_need_formula {c_Matrix a_formula_fault x_BadFormula f : Addr} {fd : FuncData} (T : Txt K mg c_Matrix) (D_formula_fault : Def P w K mg base "formula_fault" a_formula_fault ps_formula_fault 4 (sp_formula_fault c_Matrix)) (X_BadFormula : XDef P w K mg base "BadFormula" x_BadFormula "place") (F : Fun K "need_formula" "need_formula" s_need_formula f fd) (b : Binds K fd ps_need_formula []) (at_ : mg "need_formula" = some (.ref f)) (kp : PySem.W.keepIn K (.ref f) = true) : Def P w K mg base "need_formula" f ps_need_formula 5 (sp_need_formula c_Matrix x_BadFormula) :=
  ⟨⟨fd, fnD_of F sc_need_formula (fun cdv A outer s H E hr => dv_need_formula T D_formula_fault X_BadFormula cdv A outer s H E hr) (fun as Qd Ed hl h => by apply ok_need_formula <;> assumption), b⟩, at_, kp⟩
theorem fd_Matrix_init {c_Matrix a_matrix_fault a_loose_table x_BadMatrix f : Addr} {fd : FuncData} (T : Txt K mg c_Matrix) (D_matrix_fault : Def P w K mg base "matrix_fault" a_matrix_fault ps_matrix_fault 4 sp_matrix_fault) (D_loose_table : Def P w K mg base "loose_table" a_loose_table ps_loose_table 1 sp_loose_table) (X_BadMatrix : XDef P w K mg base "BadMatrix" x_BadMatrix "place") (F : Fun K "__init__" "Matrix.__init__" s_Matrix_init f fd) (b : Binds K fd ps_Matrix_init []) (at_ : mg "Matrix" = some (.ref c_Matrix)) (mk : Mk K c_Matrix f) : KDef P w K mg base "Matrix" c_Matrix f ps_Matrix_init 5 (sp_Matrix_init c_Matrix) :=
  ⟨⟨fd, fnD_of F sc_Matrix_init (fun cdv A outer s H E hr => dv_Matrix_init T D_matrix_fault D_loose_table X_BadMatrix cdv A outer s H E hr) (fun as Qd Ed hl h => by apply ok_Matrix_init <;> assumption), b⟩, at_, mk⟩
theorem fd_all_parts {c_Matrix a_is_letter a_Matrix_places a_formula_order f : Addr} {fd : FuncData} (T : Txt K mg c_Matrix) (D_is_letter : Def P w K mg base "is_letter" a_is_letter ps_is_letter 1 sp_is_letter) (D_Matrix_places : MDef P w K mg base c_Matrix "places" a_Matrix_places ps_Matrix_places 3 (sp_Matrix_places c_Matrix)) (D_formula_order : Def P w K mg base "formula_order" a_formula_order ps_formula_order 1 sp_formula_order) (F : Fun K "all_parts" "all_parts" s_all_parts f fd) (b : Binds K fd ps_all_parts []) (at_ : mg "all_parts" = some (.ref f)) (kp : PySem.W.keepIn K (.ref f) = true) : Def P w K mg base "all_parts" f ps_all_parts 6 (sp_all_parts c_Matrix) :=
  ⟨⟨fd, fnD_of F sc_all_parts (fun cdv A outer s H E hr => dv_all_parts T D_is_letter D_Matrix_places D_formula_order cdv A outer s H E hr) (fun as Qd Ed hl h => by apply ok_all_parts <;> assumption), b⟩, at_, kp⟩
theorem fd_formula_parts {c_Matrix a_all_parts f : Addr} {fd : FuncData} (T : Txt K mg c_Matrix) (D_all_parts : Def P w K mg base "all_parts" a_all_parts ps_all_parts 6 (sp_all_parts c_Matrix)) (F : Fun K "formula_parts" "formula_parts" s_formula_parts f fd) (b : Binds K fd ps_formula_parts []) (at_ : mg "formula_parts" = some (.ref f)) (kp : PySem.W.keepIn K (.ref f) = true) : Def P w K mg base "formula_parts" f ps_formula_parts 7 (sp_formula_parts c_Matrix) :=
  ⟨⟨fd, fnD_of F sc_formula_parts (fun cdv A outer s H E hr => dv_formula_parts T D_all_parts cdv A outer s H E hr) (fun as Qd Ed hl h => by apply ok_formula_parts <;> assumption), b⟩, at_, kp⟩
theorem fd_law_pool {c_Matrix a_law_next a_law_letter f : Addr} {fd : FuncData} (T : Txt K mg c_Matrix) (D_law_next : Def P w K mg base "_law_next" a_law_next ps_law_next 1 sp_law_next) (D_law_letter : Def P w K mg base "_law_letter" a_law_letter ps_law_letter 2 sp_law_letter) (F : Fun K "_law_pool" "_law_pool" s_law_pool f fd) (b : Binds K fd ps_law_pool []) (at_ : mg "_law_pool" = some (.ref f)) (kp : PySem.W.keepIn K (.ref f) = true) : Def P w K mg base "_law_pool" f ps_law_pool 3 sp_law_pool :=
  ⟨⟨fd, fnD_of F sc_law_pool (fun cdv A outer s H E hr => dv_law_pool T D_law_next D_law_letter cdv A outer s H E hr) (fun as Qd Ed hl h => by apply ok_law_pool <;> assumption), b⟩, at_, kp⟩
theorem fd_law_spoilt {c_Matrix a_law_next a_law_name a_law_letter f : Addr} {fd : FuncData} (T : Txt K mg c_Matrix) (D_law_next : Def P w K mg base "_law_next" a_law_next ps_law_next 1 sp_law_next) (D_law_name : Def P w K mg base "_law_name" a_law_name ps_law_name 3 sp_law_name) (D_law_letter : Def P w K mg base "_law_letter" a_law_letter ps_law_letter 2 sp_law_letter) (F : Fun K "_law_spoilt" "_law_spoilt" s_law_spoilt f fd) (b : Binds K fd ps_law_spoilt []) (at_ : mg "_law_spoilt" = some (.ref f)) (kp : PySem.W.keepIn K (.ref f) = true) : Def P w K mg base "_law_spoilt" f ps_law_spoilt 4 sp_law_spoilt :=
  ⟨⟨fd, fnD_of F sc_law_spoilt (fun cdv A outer s H E hr => dv_law_spoilt T D_law_next D_law_name D_law_letter cdv A outer s H E hr) (fun as Qd Ed hl h => by apply ok_law_spoilt <;> assumption), b⟩, at_, kp⟩
theorem fd_law_needed {c_Matrix a_need_formula x_BadFormula x_AnytruthsError f : Addr} {fd : FuncData} (T : Txt K mg c_Matrix) (D_need_formula : Def P w K mg base "need_formula" a_need_formula ps_need_formula 5 (sp_need_formula c_Matrix x_BadFormula)) (XC_BadFormula : XC K mg "BadFormula" x_BadFormula "place") (mq_AnytruthsError : mg "AnytruthsError" = some (.ref x_AnytruthsError)) (kq_BadFormula_AnytruthsError : PySem.W.kitOne K (.ref x_BadFormula) (.ref x_AnytruthsError) = some true) (kq_BadFormula_ValueError : PySem.W.kitOne K (.ref x_BadFormula) (.type "ValueError") = some true) (F : Fun K "_law_needed" "_law_needed" s_law_needed f fd) (b : Binds K fd ps_law_needed []) (at_ : mg "_law_needed" = some (.ref f)) (kp : PySem.W.keepIn K (.ref f) = true) : Def P w K mg base "_law_needed" f ps_law_needed 6 (sp_law_needed c_Matrix) :=
  ⟨⟨fd, fnD_of F sc_law_needed (fun cdv A outer s H E hr => dv_law_needed T D_need_formula XC_BadFormula mq_AnytruthsError kq_BadFormula_AnytruthsError kq_BadFormula_ValueError cdv A outer s H E hr) (fun as Qd Ed hl h => by apply ok_law_needed <;> assumption), b⟩, at_, kp⟩
theorem fd_law_images {c_Matrix a_law_is_letter f : Addr} {fd : FuncData} (T : Txt K mg c_Matrix) (D_law_is_letter : Def P w K mg base "_law_is_letter" a_law_is_letter ps_law_is_letter 1 sp_is_letter) (F : Fun K "_law_images" "_law_images" s_law_images f fd) (b : Binds K fd ps_law_images []) (at_ : mg "_law_images" = some (.ref f)) (kp : PySem.W.keepIn K (.ref f) = true) : Def P w K mg base "_law_images" f ps_law_images 2 sp_law_images :=
  ⟨⟨fd, fnD_of F sc_law_images (fun cdv A outer s H E hr => dv_law_images T D_law_is_letter cdv A outer s H E hr) (fun as Qd Ed hl h => by apply ok_law_images <;> assumption), b⟩, at_, kp⟩
theorem fd_law_right_formula {c_Matrix a_law_order a_formula_fault a_is_formula a_law_same_texts a_formula_arguments a_formula_parts a_all_parts a_law_is_letter a_formula_letters a_formula_order a_first_word f : Addr} {fd : FuncData} (T : Txt K mg c_Matrix) (D_law_order : Def P w K mg base "_law_order" a_law_order ps_law_order 1 sp_law_order) (D_formula_fault : Def P w K mg base "formula_fault" a_formula_fault ps_formula_fault 4 (sp_formula_fault c_Matrix)) (D_is_formula : Def P w K mg base "is_formula" a_is_formula ps_is_formula 5 (sp_is_formula c_Matrix)) (D_law_same_texts : Def P w K mg base "_law_same_texts" a_law_same_texts ps_law_same_texts 1 sp_law_same_texts) (D_formula_arguments : Def P w K mg base "formula_arguments" a_formula_arguments ps_formula_arguments 4 (sp_formula_arguments c_Matrix)) (D_formula_parts : Def P w K mg base "formula_parts" a_formula_parts ps_formula_parts 7 (sp_formula_parts c_Matrix)) (D_all_parts : Def P w K mg base "all_parts" a_all_parts ps_all_parts 6 (sp_all_parts c_Matrix)) (D_law_is_letter : Def P w K mg base "_law_is_letter" a_law_is_letter ps_law_is_letter 1 sp_is_letter) (D_formula_letters : Def P w K mg base "formula_letters" a_formula_letters ps_formula_letters 2 sp_formula_letters) (D_formula_order : Def P w K mg base "formula_order" a_formula_order ps_formula_order 1 sp_formula_order) (D_first_word : Def P w K mg base "first_word" a_first_word ps_first_word 1 sp_first_word) (F : Fun K "_law_right_formula" "_law_right_formula" s_law_right_formula f fd) (b : Binds K fd ps_law_right_formula []) (at_ : mg "_law_right_formula" = some (.ref f)) (kp : PySem.W.keepIn K (.ref f) = true) : Def P w K mg base "_law_right_formula" f ps_law_right_formula 10 (sp_law_right_formula c_Matrix) :=
  ⟨⟨fd, fnD_of F sc_law_right_formula (fun cdv A outer s H E hr => dv_law_right_formula T D_law_order D_formula_fault D_is_formula D_law_same_texts D_formula_arguments D_formula_parts D_all_parts D_law_is_letter D_formula_letters D_formula_order D_first_word cdv A outer s H E hr) (fun as Qd Ed hl h => by apply ok_law_right_formula <;> assumption), b⟩, at_, kp⟩
theorem fd_law {c_Matrix a_law_tables a_law_stream a_law_cell a_Matrix_init a_law_pool a_law_right_formula a_law_is_letter a_law_next a_law_images a_put a_law_spoilt a_law_fault a_law_same_integer a_formula_fault a_is_formula a_law_needed f : Addr} {fd : FuncData} (T : Txt K mg c_Matrix) (D_law_tables : Def P w K mg base "_law_tables" a_law_tables ps_law_tables 4 sp_law_tables) (D_law_stream : Def P w K mg base "_law_stream" a_law_stream ps_law_stream 1 sp_law_stream) (D_law_cell : Def P w K mg base "_law_cell" a_law_cell ps_law_cell 1 sp_law_cell) (D_Matrix_init : KDef P w K mg base "Matrix" c_Matrix a_Matrix_init ps_Matrix_init 5 (sp_Matrix_init c_Matrix)) (D_law_pool : Def P w K mg base "_law_pool" a_law_pool ps_law_pool 3 sp_law_pool) (D_law_right_formula : Def P w K mg base "_law_right_formula" a_law_right_formula ps_law_right_formula 10 (sp_law_right_formula c_Matrix)) (D_law_is_letter : Def P w K mg base "_law_is_letter" a_law_is_letter ps_law_is_letter 1 sp_is_letter) (D_law_next : Def P w K mg base "_law_next" a_law_next ps_law_next 1 sp_law_next) (D_law_images : Def P w K mg base "_law_images" a_law_images ps_law_images 2 sp_law_images) (D_put : Def P w K mg base "put" a_put ps_put 1 sp_put) (D_law_spoilt : Def P w K mg base "_law_spoilt" a_law_spoilt ps_law_spoilt 4 sp_law_spoilt) (D_law_fault : Def P w K mg base "_law_fault" a_law_fault ps_law_fault 2 sp_law_fault) (D_law_same_integer : Def P w K mg base "_law_same_integer" a_law_same_integer ps_law_same_integer 1 sp_law_same_integer) (D_formula_fault : Def P w K mg base "formula_fault" a_formula_fault ps_formula_fault 4 (sp_formula_fault c_Matrix)) (D_is_formula : Def P w K mg base "is_formula" a_is_formula ps_is_formula 5 (sp_is_formula c_Matrix)) (D_law_needed : Def P w K mg base "_law_needed" a_law_needed ps_law_needed 6 (sp_law_needed c_Matrix)) (F : Fun K "law" "law" s_law f fd) (b : Binds K fd ps_law []) (at_ : mg "law" = some (.ref f)) (kp : PySem.W.keepIn K (.ref f) = true) : Def P w K mg base "law" f ps_law 11 sp_law :=
  ⟨⟨fd, fnD_of F sc_law (fun cdv A outer s H E hr => dv_law T D_law_tables D_law_stream D_law_cell D_Matrix_init D_law_pool D_law_right_formula D_law_is_letter D_law_next D_law_images D_put D_law_spoilt D_law_fault D_law_same_integer D_formula_fault D_is_formula D_law_needed cdv A outer s H E hr) (fun as Qd Ed hl h => by apply ok_law <;> assumption), b⟩, at_, kp⟩
end
abbrev theP : Program := PySem.Challenge.pw_anytruths_k86_formulas_parts_put
set_option maxHeartbeats 0 in
theorem all_mk {w : World} {K : PySem.W.Frag} {h : Heap} {mg : Str → Option Value} {fa f_is_letter f_first_word f_is_value f_is_sign f_row_count f_is_name f_is_table f_loose_table f_matrix_fault f_law_cell f_law_stream f_law_next f_law_letter f_law_name f_law_tables f_law_order f_law_is_letter f_law_fault f_law_same_integer f_law_same_texts f_Matrix_places f_formula_fault f_formula_arguments f_is_formula f_formula_order f_formula_letters f_put f_need_formula f_Matrix_init f_all_parts f_formula_parts f_law_pool f_law_spoilt f_law_needed f_law_images f_law_right_formula f_law c_Matrix x_NoConnective x_BadFormula x_BadMatrix x_AnytruthsError fI_NoConnective cc_NoConnective cda_NoConnective N_NoConnective fI_BadFormula cc_BadFormula cda_BadFormula N_BadFormula fI_BadMatrix cc_BadMatrix cda_BadMatrix N_BadMatrix : Addr} {od1 an1 od2 an2 od3 an3 od4 an4 od5 an5 od6 an6 od7 an7 od8 an8 od9 an9 od10 an10 od11 an11 od12 an12 od13 an13 od14 an14 od15 an15 od16 an16 od17 an17 od18 an18 od19 an19 od20 an20 od21 an21 od22 an22 od23 an23 od24 an24 od25 an25 od26 an26 od27 an27 od28 an28 od29 an29 od30 an30 od31 an31 od32 an32 od33 an33 od34 an34 od35 an35 od36 an36 od37 an37 : Option Addr} {sl1 sl2 sl3 sl4 sl5 sl6 sl7 sl8 sl9 sl10 sl11 sl12 sl13 sl14 sl15 sl16 sl17 sl18 sl19 sl20 sl21 sl22 sl23 sl24 sl25 sl26 sl27 sl28 sl29 sl30 sl31 sl32 sl33 sl34 sl35 sl36 sl37 : Array (Option Value)} {oc1 kV1 dc1 pm1 cd1 ct1 oc2 kV2 dc2 pm2 cd2 ct2 oc3 kV3 dc3 pm3 cd3 ct3 oc4 kV4 dc4 pm4 cd4 ct4 oc5 kV5 dc5 pm5 cd5 ct5 oc6 kV6 dc6 pm6 cd6 ct6 oc7 kV7 dc7 pm7 cd7 ct7 oc8 kV8 dc8 pm8 cd8 ct8 oc9 kV9 dc9 pm9 cd9 ct9 oc10 kV10 dc10 pm10 cd10 ct10 oc11 kV11 dc11 pm11 cd11 ct11 oc12 kV12 dc12 pm12 cd12 ct12 oc13 kV13 dc13 pm13 cd13 ct13 oc14 kV14 dc14 pm14 cd14 ct14 oc15 kV15 dc15 pm15 cd15 ct15 oc16 kV16 dc16 pm16 cd16 ct16 oc17 kV17 dc17 pm17 cd17 ct17 oc18 kV18 dc18 pm18 cd18 ct18 oc19 kV19 dc19 pm19 cd19 ct19 oc20 kV20 dc20 pm20 cd20 ct20 oc21 kV21 dc21 pm21 cd21 ct21 oc22 kV22 dc22 pm22 cd22 ct22 oc23 kV23 dc23 pm23 cd23 ct23 oc24 kV24 dc24 pm24 cd24 ct24 oc25 kV25 dc25 pm25 cd25 ct25 oc26 kV26 dc26 pm26 cd26 ct26 oc27 kV27 dc27 pm27 cd27 ct27 oc28 kV28 dc28 pm28 cd28 ct28 oc29 kV29 dc29 pm29 cd29 ct29 oc30 kV30 dc30 pm30 cd30 ct30 oc31 kV31 dc31 pm31 cd31 ct31 oc32 kV32 dc32 pm32 cd32 ct32 oc33 kV33 dc33 pm33 cd33 ct33 oc34 kV34 dc34 pm34 cd34 ct34 oc35 kV35 dc35 pm35 cd35 ct35 oc36 kV36 dc36 pm36 cd36 ct36 oc37 kV37 dc37 pm37 cd37 ct37 : Value} {tk_LEAST_SIZE tk_GREATEST_SIZE tk_PLACE_LIMIT tk_ROW_LIMIT tk_TABLE_LIMIT : Nat} {nm_NoConnective q_NoConnective file_NoConnective nm_BadFormula q_BadFormula file_BadFormula nm_BadMatrix q_BadMatrix file_BadMatrix : Str} {bs_NoConnective bm_NoConnective sub_NoConnective : List Value} {sn_NoConnective : List Str} {ab_NoConnective : Bool} {col_NoConnective : Option Bool} {dd_NoConnective odI_NoConnective anI_NoConnective cdd_NoConnective cld_NoConnective : Option Addr} {m0_NoConnective m1_NoConnective m2_NoConnective m3_NoConnective m5_NoConnective : Option Value} {slI_NoConnective csl_NoConnective ccs_NoConnective : Array (Option Value)} {vs_NoConnective : Array Value} {ocI_NoConnective kVI_NoConnective dcI_NoConnective pmI_NoConnective ctI_NoConnective cl_NoConnective ccl_NoConnective : Value} {tf_NoConnective : Nat} {bs_BadFormula bm_BadFormula sub_BadFormula : List Value} {sn_BadFormula : List Str} {ab_BadFormula : Bool} {col_BadFormula : Option Bool} {dd_BadFormula odI_BadFormula anI_BadFormula cdd_BadFormula cld_BadFormula : Option Addr} {m0_BadFormula m1_BadFormula m2_BadFormula m3_BadFormula m5_BadFormula : Option Value} {slI_BadFormula csl_BadFormula ccs_BadFormula : Array (Option Value)} {vs_BadFormula : Array Value} {ocI_BadFormula kVI_BadFormula dcI_BadFormula pmI_BadFormula ctI_BadFormula cl_BadFormula ccl_BadFormula : Value} {tf_BadFormula : Nat} {bs_BadMatrix bm_BadMatrix sub_BadMatrix : List Value} {sn_BadMatrix : List Str} {ab_BadMatrix : Bool} {col_BadMatrix : Option Bool} {dd_BadMatrix odI_BadMatrix anI_BadMatrix cdd_BadMatrix cld_BadMatrix : Option Addr} {m0_BadMatrix m1_BadMatrix m2_BadMatrix m3_BadMatrix m5_BadMatrix : Option Value} {slI_BadMatrix csl_BadMatrix ccs_BadMatrix : Array (Option Value)} {vs_BadMatrix : Array Value} {ocI_BadMatrix kVI_BadMatrix dcI_BadMatrix pmI_BadMatrix ctI_BadMatrix cl_BadMatrix ccl_BadMatrix : Value} {tf_BadMatrix : Nat} (X : K.In h) (G : h.Ns mainGlobals mg) (hfa : mg "law" = some (.ref fa))
    (aC_Matrix : PySem.W.nsIn K mainGlobals "Matrix" = some (some (.ref c_Matrix)))
    (pg_Matrix : PySem.W.plainGet K c_Matrix Str.empty = true)
    (hd_Matrix : PySem.W.hasDictIn K c_Matrix = true)
    (po_Matrix : PySem.W.plainOver K c_Matrix = true)
    (sa_Matrix : PySem.W.findIn K (.ref c_Matrix) "__setattr__" = some (some (.builtin "object.__setattr__")))
    (mk_Matrix : PySem.W.makesIn K c_Matrix = true)
    (kc_Matrix : PySem.W.keepIn K (.ref c_Matrix) = true)
    (n_Matrix_size : PySem.W.findIn K (.ref c_Matrix) "size" = some none)
    (n_Matrix_designated : PySem.W.findIn K (.ref c_Matrix) "designated" = some none)
    (n_Matrix_tables : PySem.W.findIn K (.ref c_Matrix) "tables" = some none)
    (n_Matrix_names : PySem.W.findIn K (.ref c_Matrix) "names" = some none)
    (n_Matrix_loose : PySem.W.findIn K (.ref c_Matrix) "loose" = some none)
    (n_Matrix__places : PySem.W.findIn K (.ref c_Matrix) "_places" = some none)
    (n_Matrix__entries : PySem.W.findIn K (.ref c_Matrix) "_entries" = some none)
    (b_len : PySem.W.nsIn K mainGlobals "len" = some none)
    (b_abs : PySem.W.nsIn K mainGlobals "abs" = some none)
    (b_int : PySem.W.nsIn K mainGlobals "int" = some none)
    (b_tuple : PySem.W.nsIn K mainGlobals "tuple" = some none)
    (b_list : PySem.W.nsIn K mainGlobals "list" = some none)
    (b_dict : PySem.W.nsIn K mainGlobals "dict" = some none)
    (b_isinstance : PySem.W.nsIn K mainGlobals "isinstance" = some none)
    (b_range : PySem.W.nsIn K mainGlobals "range" = some none)
    (b_reversed : PySem.W.nsIn K mainGlobals "reversed" = some none)
    (b_sorted : PySem.W.nsIn K mainGlobals "sorted" = some none)
    (b_str : PySem.W.nsIn K mainGlobals "str" = some none)
    (b_bool : PySem.W.nsIn K mainGlobals "bool" = some none)
    (b_super : PySem.W.nsIn K mainGlobals "super" = some none)
    (b_ValueError : PySem.W.nsIn K mainGlobals "ValueError" = some none)
    (g_LEAST_SIZE : PySem.W.nsIn K mainGlobals "LEAST_SIZE" = some (some (.int 2 tk_LEAST_SIZE)))
    (g_GREATEST_SIZE : PySem.W.nsIn K mainGlobals "GREATEST_SIZE" = some (some (.int 4 tk_GREATEST_SIZE)))
    (g_PLACE_LIMIT : PySem.W.nsIn K mainGlobals "PLACE_LIMIT" = some (some (.int 3 tk_PLACE_LIMIT)))
    (g_ROW_LIMIT : PySem.W.nsIn K mainGlobals "ROW_LIMIT" = some (some (.int 16 tk_ROW_LIMIT)))
    (g_TABLE_LIMIT : PySem.W.nsIn K mainGlobals "TABLE_LIMIT" = some (some (.int 6 tk_TABLE_LIMIT)))
    (a1 : PySem.W.nsIn K mainGlobals "is_letter" = some (some (.ref f_is_letter)))
    (l1 : K.lookup f_is_letter = some ⟨oc1, od1, .func (PySem.W.fnOf "is_letter" "is_letter" (defArgs s_is_letter) (defBody s_is_letter) (defScope s_is_letter) .none kV1 dc1 pm1 an1 cd1 ct1), sl1⟩)
    (c1 : PySem.W.codeIn K cd1 "is_letter" = true)
    (k1 : PySem.W.keepIn K (.ref f_is_letter) = true)
    (a2 : PySem.W.nsIn K mainGlobals "first_word" = some (some (.ref f_first_word)))
    (l2 : K.lookup f_first_word = some ⟨oc2, od2, .func (PySem.W.fnOf "first_word" "first_word" (defArgs s_first_word) (defBody s_first_word) (defScope s_first_word) .none kV2 dc2 pm2 an2 cd2 ct2), sl2⟩)
    (c2 : PySem.W.codeIn K cd2 "first_word" = true)
    (k2 : PySem.W.keepIn K (.ref f_first_word) = true)
    (a3 : PySem.W.nsIn K mainGlobals "is_value" = some (some (.ref f_is_value)))
    (l3 : K.lookup f_is_value = some ⟨oc3, od3, .func (PySem.W.fnOf "is_value" "is_value" (defArgs s_is_value) (defBody s_is_value) (defScope s_is_value) .none kV3 dc3 pm3 an3 cd3 ct3), sl3⟩)
    (c3 : PySem.W.codeIn K cd3 "is_value" = true)
    (k3 : PySem.W.keepIn K (.ref f_is_value) = true)
    (a4 : PySem.W.nsIn K mainGlobals "is_sign" = some (some (.ref f_is_sign)))
    (l4 : K.lookup f_is_sign = some ⟨oc4, od4, .func (PySem.W.fnOf "is_sign" "is_sign" (defArgs s_is_sign) (defBody s_is_sign) (defScope s_is_sign) .none kV4 dc4 pm4 an4 cd4 ct4), sl4⟩)
    (c4 : PySem.W.codeIn K cd4 "is_sign" = true)
    (k4 : PySem.W.keepIn K (.ref f_is_sign) = true)
    (a5 : PySem.W.nsIn K mainGlobals "row_count" = some (some (.ref f_row_count)))
    (l5 : K.lookup f_row_count = some ⟨oc5, od5, .func (PySem.W.fnOf "row_count" "row_count" (defArgs s_row_count) (defBody s_row_count) (defScope s_row_count) .none kV5 dc5 pm5 an5 cd5 ct5), sl5⟩)
    (c5 : PySem.W.codeIn K cd5 "row_count" = true)
    (k5 : PySem.W.keepIn K (.ref f_row_count) = true)
    (a6 : PySem.W.nsIn K mainGlobals "is_name" = some (some (.ref f_is_name)))
    (l6 : K.lookup f_is_name = some ⟨oc6, od6, .func (PySem.W.fnOf "is_name" "is_name" (defArgs s_is_name) (defBody s_is_name) (defScope s_is_name) .none kV6 dc6 pm6 an6 cd6 ct6), sl6⟩)
    (c6 : PySem.W.codeIn K cd6 "is_name" = true)
    (k6 : PySem.W.keepIn K (.ref f_is_name) = true)
    (a7 : PySem.W.nsIn K mainGlobals "is_table" = some (some (.ref f_is_table)))
    (l7 : K.lookup f_is_table = some ⟨oc7, od7, .func (PySem.W.fnOf "is_table" "is_table" (defArgs s_is_table) (defBody s_is_table) (defScope s_is_table) .none kV7 dc7 pm7 an7 cd7 ct7), sl7⟩)
    (c7 : PySem.W.codeIn K cd7 "is_table" = true)
    (k7 : PySem.W.keepIn K (.ref f_is_table) = true)
    (a8 : PySem.W.nsIn K mainGlobals "loose_table" = some (some (.ref f_loose_table)))
    (l8 : K.lookup f_loose_table = some ⟨oc8, od8, .func (PySem.W.fnOf "loose_table" "loose_table" (defArgs s_loose_table) (defBody s_loose_table) (defScope s_loose_table) .none kV8 dc8 pm8 an8 cd8 ct8), sl8⟩)
    (c8 : PySem.W.codeIn K cd8 "loose_table" = true)
    (k8 : PySem.W.keepIn K (.ref f_loose_table) = true)
    (a9 : PySem.W.nsIn K mainGlobals "matrix_fault" = some (some (.ref f_matrix_fault)))
    (l9 : K.lookup f_matrix_fault = some ⟨oc9, od9, .func (PySem.W.fnOf "matrix_fault" "matrix_fault" (defArgs s_matrix_fault) (defBody s_matrix_fault) (defScope s_matrix_fault) .none kV9 dc9 pm9 an9 cd9 ct9), sl9⟩)
    (c9 : PySem.W.codeIn K cd9 "matrix_fault" = true)
    (k9 : PySem.W.keepIn K (.ref f_matrix_fault) = true)
    (a10 : PySem.W.nsIn K mainGlobals "_law_cell" = some (some (.ref f_law_cell)))
    (l10 : K.lookup f_law_cell = some ⟨oc10, od10, .func (PySem.W.fnOf "_law_cell" "_law_cell" (defArgs s_law_cell) (defBody s_law_cell) (defScope s_law_cell) .none kV10 dc10 pm10 an10 cd10 ct10), sl10⟩)
    (c10 : PySem.W.codeIn K cd10 "_law_cell" = true)
    (k10 : PySem.W.keepIn K (.ref f_law_cell) = true)
    (a11 : PySem.W.nsIn K mainGlobals "_law_stream" = some (some (.ref f_law_stream)))
    (l11 : K.lookup f_law_stream = some ⟨oc11, od11, .func (PySem.W.fnOf "_law_stream" "_law_stream" (defArgs s_law_stream) (defBody s_law_stream) (defScope s_law_stream) .none kV11 dc11 pm11 an11 cd11 ct11), sl11⟩)
    (c11 : PySem.W.codeIn K cd11 "_law_stream" = true)
    (k11 : PySem.W.keepIn K (.ref f_law_stream) = true)
    (a12 : PySem.W.nsIn K mainGlobals "_law_next" = some (some (.ref f_law_next)))
    (l12 : K.lookup f_law_next = some ⟨oc12, od12, .func (PySem.W.fnOf "_law_next" "_law_next" (defArgs s_law_next) (defBody s_law_next) (defScope s_law_next) .none kV12 dc12 pm12 an12 cd12 ct12), sl12⟩)
    (c12 : PySem.W.codeIn K cd12 "_law_next" = true)
    (k12 : PySem.W.keepIn K (.ref f_law_next) = true)
    (a13 : PySem.W.nsIn K mainGlobals "_law_letter" = some (some (.ref f_law_letter)))
    (l13 : K.lookup f_law_letter = some ⟨oc13, od13, .func (PySem.W.fnOf "_law_letter" "_law_letter" (defArgs s_law_letter) (defBody s_law_letter) (defScope s_law_letter) .none kV13 dc13 pm13 an13 cd13 ct13), sl13⟩)
    (c13 : PySem.W.codeIn K cd13 "_law_letter" = true)
    (k13 : PySem.W.keepIn K (.ref f_law_letter) = true)
    (a14 : PySem.W.nsIn K mainGlobals "_law_name" = some (some (.ref f_law_name)))
    (l14 : K.lookup f_law_name = some ⟨oc14, od14, .func (PySem.W.fnOf "_law_name" "_law_name" (defArgs s_law_name) (defBody s_law_name) (defScope s_law_name) .none kV14 dc14 pm14 an14 cd14 ct14), sl14⟩)
    (c14 : PySem.W.codeIn K cd14 "_law_name" = true)
    (k14 : PySem.W.keepIn K (.ref f_law_name) = true)
    (a15 : PySem.W.nsIn K mainGlobals "_law_tables" = some (some (.ref f_law_tables)))
    (l15 : K.lookup f_law_tables = some ⟨oc15, od15, .func (PySem.W.fnOf "_law_tables" "_law_tables" (defArgs s_law_tables) (defBody s_law_tables) (defScope s_law_tables) .none kV15 dc15 pm15 an15 cd15 ct15), sl15⟩)
    (c15 : PySem.W.codeIn K cd15 "_law_tables" = true)
    (k15 : PySem.W.keepIn K (.ref f_law_tables) = true)
    (a16 : PySem.W.nsIn K mainGlobals "_law_order" = some (some (.ref f_law_order)))
    (l16 : K.lookup f_law_order = some ⟨oc16, od16, .func (PySem.W.fnOf "_law_order" "_law_order" (defArgs s_law_order) (defBody s_law_order) (defScope s_law_order) .none kV16 dc16 pm16 an16 cd16 ct16), sl16⟩)
    (c16 : PySem.W.codeIn K cd16 "_law_order" = true)
    (k16 : PySem.W.keepIn K (.ref f_law_order) = true)
    (a17 : PySem.W.nsIn K mainGlobals "_law_is_letter" = some (some (.ref f_law_is_letter)))
    (l17 : K.lookup f_law_is_letter = some ⟨oc17, od17, .func (PySem.W.fnOf "_law_is_letter" "_law_is_letter" (defArgs s_law_is_letter) (defBody s_law_is_letter) (defScope s_law_is_letter) .none kV17 dc17 pm17 an17 cd17 ct17), sl17⟩)
    (c17 : PySem.W.codeIn K cd17 "_law_is_letter" = true)
    (k17 : PySem.W.keepIn K (.ref f_law_is_letter) = true)
    (a18 : PySem.W.nsIn K mainGlobals "_law_fault" = some (some (.ref f_law_fault)))
    (l18 : K.lookup f_law_fault = some ⟨oc18, od18, .func (PySem.W.fnOf "_law_fault" "_law_fault" (defArgs s_law_fault) (defBody s_law_fault) (defScope s_law_fault) .none kV18 dc18 pm18 an18 cd18 ct18), sl18⟩)
    (c18 : PySem.W.codeIn K cd18 "_law_fault" = true)
    (k18 : PySem.W.keepIn K (.ref f_law_fault) = true)
    (a19 : PySem.W.nsIn K mainGlobals "_law_same_integer" = some (some (.ref f_law_same_integer)))
    (l19 : K.lookup f_law_same_integer = some ⟨oc19, od19, .func (PySem.W.fnOf "_law_same_integer" "_law_same_integer" (defArgs s_law_same_integer) (defBody s_law_same_integer) (defScope s_law_same_integer) .none kV19 dc19 pm19 an19 cd19 ct19), sl19⟩)
    (c19 : PySem.W.codeIn K cd19 "_law_same_integer" = true)
    (k19 : PySem.W.keepIn K (.ref f_law_same_integer) = true)
    (a20 : PySem.W.nsIn K mainGlobals "_law_same_texts" = some (some (.ref f_law_same_texts)))
    (l20 : K.lookup f_law_same_texts = some ⟨oc20, od20, .func (PySem.W.fnOf "_law_same_texts" "_law_same_texts" (defArgs s_law_same_texts) (defBody s_law_same_texts) (defScope s_law_same_texts) .none kV20 dc20 pm20 an20 cd20 ct20), sl20⟩)
    (c20 : PySem.W.codeIn K cd20 "_law_same_texts" = true)
    (k20 : PySem.W.keepIn K (.ref f_law_same_texts) = true)
    (a21 : PySem.W.findIn K (.ref c_Matrix) "places" = some (some (.ref f_Matrix_places)))
    (i21 : PySem.W.isFn K (.ref f_Matrix_places) = true)
    (l21 : K.lookup f_Matrix_places = some ⟨oc21, od21, .func (PySem.W.fnOf "places" "Matrix.places" (defArgs s_Matrix_places) (defBody s_Matrix_places) (defScope s_Matrix_places) .none kV21 dc21 pm21 an21 cd21 ct21), sl21⟩)
    (c21 : PySem.W.codeIn K cd21 "Matrix.places" = true)
    (k21 : PySem.W.keepIn K (.ref f_Matrix_places) = true)
    (a22 : PySem.W.nsIn K mainGlobals "formula_fault" = some (some (.ref f_formula_fault)))
    (l22 : K.lookup f_formula_fault = some ⟨oc22, od22, .func (PySem.W.fnOf "formula_fault" "formula_fault" (defArgs s_formula_fault) (defBody s_formula_fault) (defScope s_formula_fault) .none kV22 dc22 pm22 an22 cd22 ct22), sl22⟩)
    (c22 : PySem.W.codeIn K cd22 "formula_fault" = true)
    (k22 : PySem.W.keepIn K (.ref f_formula_fault) = true)
    (a23 : PySem.W.nsIn K mainGlobals "formula_arguments" = some (some (.ref f_formula_arguments)))
    (l23 : K.lookup f_formula_arguments = some ⟨oc23, od23, .func (PySem.W.fnOf "formula_arguments" "formula_arguments" (defArgs s_formula_arguments) (defBody s_formula_arguments) (defScope s_formula_arguments) .none kV23 dc23 pm23 an23 cd23 ct23), sl23⟩)
    (c23 : PySem.W.codeIn K cd23 "formula_arguments" = true)
    (k23 : PySem.W.keepIn K (.ref f_formula_arguments) = true)
    (a24 : PySem.W.nsIn K mainGlobals "is_formula" = some (some (.ref f_is_formula)))
    (l24 : K.lookup f_is_formula = some ⟨oc24, od24, .func (PySem.W.fnOf "is_formula" "is_formula" (defArgs s_is_formula) (defBody s_is_formula) (defScope s_is_formula) .none kV24 dc24 pm24 an24 cd24 ct24), sl24⟩)
    (c24 : PySem.W.codeIn K cd24 "is_formula" = true)
    (k24 : PySem.W.keepIn K (.ref f_is_formula) = true)
    (a25 : PySem.W.nsIn K mainGlobals "formula_order" = some (some (.ref f_formula_order)))
    (l25 : K.lookup f_formula_order = some ⟨oc25, od25, .func (PySem.W.fnOf "formula_order" "formula_order" (defArgs s_formula_order) (defBody s_formula_order) (defScope s_formula_order) .none kV25 dc25 pm25 an25 cd25 ct25), sl25⟩)
    (c25 : PySem.W.codeIn K cd25 "formula_order" = true)
    (k25 : PySem.W.keepIn K (.ref f_formula_order) = true)
    (a26 : PySem.W.nsIn K mainGlobals "formula_letters" = some (some (.ref f_formula_letters)))
    (l26 : K.lookup f_formula_letters = some ⟨oc26, od26, .func (PySem.W.fnOf "formula_letters" "formula_letters" (defArgs s_formula_letters) (defBody s_formula_letters) (defScope s_formula_letters) .none kV26 dc26 pm26 an26 cd26 ct26), sl26⟩)
    (c26 : PySem.W.codeIn K cd26 "formula_letters" = true)
    (k26 : PySem.W.keepIn K (.ref f_formula_letters) = true)
    (a27 : PySem.W.nsIn K mainGlobals "put" = some (some (.ref f_put)))
    (l27 : K.lookup f_put = some ⟨oc27, od27, .func (PySem.W.fnOf "put" "put" (defArgs s_put) (defBody s_put) (defScope s_put) .none kV27 dc27 pm27 an27 cd27 ct27), sl27⟩)
    (c27 : PySem.W.codeIn K cd27 "put" = true)
    (k27 : PySem.W.keepIn K (.ref f_put) = true)
    (a28 : PySem.W.nsIn K mainGlobals "need_formula" = some (some (.ref f_need_formula)))
    (l28 : K.lookup f_need_formula = some ⟨oc28, od28, .func (PySem.W.fnOf "need_formula" "need_formula" (defArgs s_need_formula) (defBody s_need_formula) (defScope s_need_formula) .none kV28 dc28 pm28 an28 cd28 ct28), sl28⟩)
    (c28 : PySem.W.codeIn K cd28 "need_formula" = true)
    (k28 : PySem.W.keepIn K (.ref f_need_formula) = true)
    (a29 : PySem.W.findIn K (.ref c_Matrix) "__init__" = some (some (.ref f_Matrix_init)))
    (i29 : PySem.W.isFn K (.ref f_Matrix_init) = true)
    (l29 : K.lookup f_Matrix_init = some ⟨oc29, od29, .func (PySem.W.fnOf "__init__" "Matrix.__init__" (defArgs s_Matrix_init) (defBody s_Matrix_init) (defScope s_Matrix_init) .none kV29 dc29 pm29 an29 cd29 ct29), sl29⟩)
    (c29 : PySem.W.codeIn K cd29 "Matrix.__init__" = true)
    (k29 : PySem.W.keepIn K (.ref f_Matrix_init) = true)
    (a30 : PySem.W.nsIn K mainGlobals "all_parts" = some (some (.ref f_all_parts)))
    (l30 : K.lookup f_all_parts = some ⟨oc30, od30, .func (PySem.W.fnOf "all_parts" "all_parts" (defArgs s_all_parts) (defBody s_all_parts) (defScope s_all_parts) .none kV30 dc30 pm30 an30 cd30 ct30), sl30⟩)
    (c30 : PySem.W.codeIn K cd30 "all_parts" = true)
    (k30 : PySem.W.keepIn K (.ref f_all_parts) = true)
    (a31 : PySem.W.nsIn K mainGlobals "formula_parts" = some (some (.ref f_formula_parts)))
    (l31 : K.lookup f_formula_parts = some ⟨oc31, od31, .func (PySem.W.fnOf "formula_parts" "formula_parts" (defArgs s_formula_parts) (defBody s_formula_parts) (defScope s_formula_parts) .none kV31 dc31 pm31 an31 cd31 ct31), sl31⟩)
    (c31 : PySem.W.codeIn K cd31 "formula_parts" = true)
    (k31 : PySem.W.keepIn K (.ref f_formula_parts) = true)
    (a32 : PySem.W.nsIn K mainGlobals "_law_pool" = some (some (.ref f_law_pool)))
    (l32 : K.lookup f_law_pool = some ⟨oc32, od32, .func (PySem.W.fnOf "_law_pool" "_law_pool" (defArgs s_law_pool) (defBody s_law_pool) (defScope s_law_pool) .none kV32 dc32 pm32 an32 cd32 ct32), sl32⟩)
    (c32 : PySem.W.codeIn K cd32 "_law_pool" = true)
    (k32 : PySem.W.keepIn K (.ref f_law_pool) = true)
    (a33 : PySem.W.nsIn K mainGlobals "_law_spoilt" = some (some (.ref f_law_spoilt)))
    (l33 : K.lookup f_law_spoilt = some ⟨oc33, od33, .func (PySem.W.fnOf "_law_spoilt" "_law_spoilt" (defArgs s_law_spoilt) (defBody s_law_spoilt) (defScope s_law_spoilt) .none kV33 dc33 pm33 an33 cd33 ct33), sl33⟩)
    (c33 : PySem.W.codeIn K cd33 "_law_spoilt" = true)
    (k33 : PySem.W.keepIn K (.ref f_law_spoilt) = true)
    (a34 : PySem.W.nsIn K mainGlobals "_law_needed" = some (some (.ref f_law_needed)))
    (l34 : K.lookup f_law_needed = some ⟨oc34, od34, .func (PySem.W.fnOf "_law_needed" "_law_needed" (defArgs s_law_needed) (defBody s_law_needed) (defScope s_law_needed) .none kV34 dc34 pm34 an34 cd34 ct34), sl34⟩)
    (c34 : PySem.W.codeIn K cd34 "_law_needed" = true)
    (k34 : PySem.W.keepIn K (.ref f_law_needed) = true)
    (a35 : PySem.W.nsIn K mainGlobals "_law_images" = some (some (.ref f_law_images)))
    (l35 : K.lookup f_law_images = some ⟨oc35, od35, .func (PySem.W.fnOf "_law_images" "_law_images" (defArgs s_law_images) (defBody s_law_images) (defScope s_law_images) .none kV35 dc35 pm35 an35 cd35 ct35), sl35⟩)
    (c35 : PySem.W.codeIn K cd35 "_law_images" = true)
    (k35 : PySem.W.keepIn K (.ref f_law_images) = true)
    (a36 : PySem.W.nsIn K mainGlobals "_law_right_formula" = some (some (.ref f_law_right_formula)))
    (l36 : K.lookup f_law_right_formula = some ⟨oc36, od36, .func (PySem.W.fnOf "_law_right_formula" "_law_right_formula" (defArgs s_law_right_formula) (defBody s_law_right_formula) (defScope s_law_right_formula) .none kV36 dc36 pm36 an36 cd36 ct36), sl36⟩)
    (c36 : PySem.W.codeIn K cd36 "_law_right_formula" = true)
    (k36 : PySem.W.keepIn K (.ref f_law_right_formula) = true)
    (a37 : PySem.W.nsIn K mainGlobals "law" = some (some (.ref f_law)))
    (l37 : K.lookup f_law = some ⟨oc37, od37, .func (PySem.W.fnOf "law" "law" (defArgs s_law) (defBody s_law) (defScope s_law) .none kV37 dc37 pm37 an37 cd37 ct37), sl37⟩)
    (c37 : PySem.W.codeIn K cd37 "law" = true)
    (k37 : PySem.W.keepIn K (.ref f_law) = true)
    (ao_AnytruthsError : PySem.W.nsIn K mainGlobals "AnytruthsError" = some (some (.ref x_AnytruthsError)))
    (xa_NoConnective : PySem.W.nsIn K mainGlobals "NoConnective" = some (some (.ref x_NoConnective)))
    (xL_NoConnective : K.lookup x_NoConnective = some (excClassObj nm_NoConnective q_NoConnective x_NoConnective N_NoConnective bs_NoConnective bm_NoConnective true sn_NoConnective sub_NoConnective ab_NoConnective col_NoConnective dd_NoConnective m0_NoConnective m1_NoConnective m2_NoConnective m3_NoConnective m5_NoConnective "ValueError.__new__"))
    (xr_NoConnective : PySem.HandSPX.refsVE bm_NoConnective = true)
    (xs_NoConnective : PySem.W.findIn K (.ref x_NoConnective) "__setattr__" = some (some (.builtin "object.__setattr__")))
    (xe_NoConnective : PySem.W.subIn K (.ref x_NoConnective) (.type "BaseException") = some true)
    (xt_NoConnective : PySem.W.typeIn K (.ref x_NoConnective) = some (.type "type"))
    (xk_NoConnective : PySem.W.keepIn K (.ref x_NoConnective) = true)
    (xn_NoConnective : PySem.W.findIn K (.ref x_NoConnective) "name" = some none)
    (xi_NoConnective : PySem.W.findIn K (.ref x_NoConnective) "__init__" = some (some (.ref fI_NoConnective)))
    (xf_NoConnective : PySem.W.typeIn K (.ref fI_NoConnective) = some (.type "function"))
    (xl_NoConnective : K.lookup fI_NoConnective = some ⟨ocI_NoConnective, odI_NoConnective, .func (PySem.W.ksFn "__init__" "NoConnective.__init__" (defArgs (inClass (top 5) 0)) (defBody (inClass (top 5) 0)) (defScope (inClass (top 5) 0)) .none kVI_NoConnective dcI_NoConnective pmI_NoConnective anI_NoConnective (.ref cda_NoConnective) ctI_NoConnective cc_NoConnective), slI_NoConnective⟩)
    (xc_NoConnective : PySem.W.codeIn K (.ref cda_NoConnective) "NoConnective.__init__" = true)
    (xg_NoConnective : K.lookup cc_NoConnective = some ⟨cl_NoConnective, cld_NoConnective, .cell (some (.ref x_NoConnective)), csl_NoConnective⟩)
    (xh_NoConnective : K.lookup cda_NoConnective = some ⟨ccl_NoConnective, cdd_NoConnective, .fields vs_NoConnective, ccs_NoConnective⟩)
    (xv_NoConnective : vs_NoConnective[2]? = some (.str file_NoConnective tf_NoConnective))
    (xw_NoConnective : ((PySem.Challenge.pw_anytruths_k86_formulas_parts_put.main.file : Str) == file_NoConnective) = true)
    (xm_NoConnective : PySem.W.ks_superIn K x_NoConnective x_NoConnective "__init__" = some (some (.builtin "ValueError.__init__")))
    (xu_NoConnective : PySem.W.subIn K (.ref x_NoConnective) (.type "ValueError") = some true)
    (xa_BadFormula : PySem.W.nsIn K mainGlobals "BadFormula" = some (some (.ref x_BadFormula)))
    (xL_BadFormula : K.lookup x_BadFormula = some (excClassObj nm_BadFormula q_BadFormula x_BadFormula N_BadFormula bs_BadFormula bm_BadFormula true sn_BadFormula sub_BadFormula ab_BadFormula col_BadFormula dd_BadFormula m0_BadFormula m1_BadFormula m2_BadFormula m3_BadFormula m5_BadFormula "ValueError.__new__"))
    (xr_BadFormula : PySem.HandSPX.refsVE bm_BadFormula = true)
    (xs_BadFormula : PySem.W.findIn K (.ref x_BadFormula) "__setattr__" = some (some (.builtin "object.__setattr__")))
    (xe_BadFormula : PySem.W.subIn K (.ref x_BadFormula) (.type "BaseException") = some true)
    (xt_BadFormula : PySem.W.typeIn K (.ref x_BadFormula) = some (.type "type"))
    (xk_BadFormula : PySem.W.keepIn K (.ref x_BadFormula) = true)
    (xn_BadFormula : PySem.W.findIn K (.ref x_BadFormula) "place" = some none)
    (xi_BadFormula : PySem.W.findIn K (.ref x_BadFormula) "__init__" = some (some (.ref fI_BadFormula)))
    (xf_BadFormula : PySem.W.typeIn K (.ref fI_BadFormula) = some (.type "function"))
    (xl_BadFormula : K.lookup fI_BadFormula = some ⟨ocI_BadFormula, odI_BadFormula, .func (PySem.W.ksFn "__init__" "BadFormula.__init__" (defArgs (inClass (top 4) 0)) (defBody (inClass (top 4) 0)) (defScope (inClass (top 4) 0)) .none kVI_BadFormula dcI_BadFormula pmI_BadFormula anI_BadFormula (.ref cda_BadFormula) ctI_BadFormula cc_BadFormula), slI_BadFormula⟩)
    (xc_BadFormula : PySem.W.codeIn K (.ref cda_BadFormula) "BadFormula.__init__" = true)
    (xg_BadFormula : K.lookup cc_BadFormula = some ⟨cl_BadFormula, cld_BadFormula, .cell (some (.ref x_BadFormula)), csl_BadFormula⟩)
    (xh_BadFormula : K.lookup cda_BadFormula = some ⟨ccl_BadFormula, cdd_BadFormula, .fields vs_BadFormula, ccs_BadFormula⟩)
    (xv_BadFormula : vs_BadFormula[2]? = some (.str file_BadFormula tf_BadFormula))
    (xw_BadFormula : ((PySem.Challenge.pw_anytruths_k86_formulas_parts_put.main.file : Str) == file_BadFormula) = true)
    (xm_BadFormula : PySem.W.ks_superIn K x_BadFormula x_BadFormula "__init__" = some (some (.builtin "ValueError.__init__")))
    (xu_BadFormula : PySem.W.subIn K (.ref x_BadFormula) (.type "ValueError") = some true)
    (xa_BadMatrix : PySem.W.nsIn K mainGlobals "BadMatrix" = some (some (.ref x_BadMatrix)))
    (xL_BadMatrix : K.lookup x_BadMatrix = some (excClassObj nm_BadMatrix q_BadMatrix x_BadMatrix N_BadMatrix bs_BadMatrix bm_BadMatrix true sn_BadMatrix sub_BadMatrix ab_BadMatrix col_BadMatrix dd_BadMatrix m0_BadMatrix m1_BadMatrix m2_BadMatrix m3_BadMatrix m5_BadMatrix "ValueError.__new__"))
    (xr_BadMatrix : PySem.HandSPX.refsVE bm_BadMatrix = true)
    (xs_BadMatrix : PySem.W.findIn K (.ref x_BadMatrix) "__setattr__" = some (some (.builtin "object.__setattr__")))
    (xe_BadMatrix : PySem.W.subIn K (.ref x_BadMatrix) (.type "BaseException") = some true)
    (xt_BadMatrix : PySem.W.typeIn K (.ref x_BadMatrix) = some (.type "type"))
    (xk_BadMatrix : PySem.W.keepIn K (.ref x_BadMatrix) = true)
    (xn_BadMatrix : PySem.W.findIn K (.ref x_BadMatrix) "place" = some none)
    (xi_BadMatrix : PySem.W.findIn K (.ref x_BadMatrix) "__init__" = some (some (.ref fI_BadMatrix)))
    (xf_BadMatrix : PySem.W.typeIn K (.ref fI_BadMatrix) = some (.type "function"))
    (xl_BadMatrix : K.lookup fI_BadMatrix = some ⟨ocI_BadMatrix, odI_BadMatrix, .func (PySem.W.ksFn "__init__" "BadMatrix.__init__" (defArgs (inClass (top 3) 0)) (defBody (inClass (top 3) 0)) (defScope (inClass (top 3) 0)) .none kVI_BadMatrix dcI_BadMatrix pmI_BadMatrix anI_BadMatrix (.ref cda_BadMatrix) ctI_BadMatrix cc_BadMatrix), slI_BadMatrix⟩)
    (xc_BadMatrix : PySem.W.codeIn K (.ref cda_BadMatrix) "BadMatrix.__init__" = true)
    (xg_BadMatrix : K.lookup cc_BadMatrix = some ⟨cl_BadMatrix, cld_BadMatrix, .cell (some (.ref x_BadMatrix)), csl_BadMatrix⟩)
    (xh_BadMatrix : K.lookup cda_BadMatrix = some ⟨ccl_BadMatrix, cdd_BadMatrix, .fields vs_BadMatrix, ccs_BadMatrix⟩)
    (xv_BadMatrix : vs_BadMatrix[2]? = some (.str file_BadMatrix tf_BadMatrix))
    (xw_BadMatrix : ((PySem.Challenge.pw_anytruths_k86_formulas_parts_put.main.file : Str) == file_BadMatrix) = true)
    (xm_BadMatrix : PySem.W.ks_superIn K x_BadMatrix x_BadMatrix "__init__" = some (some (.builtin "ValueError.__init__")))
    (xu_BadMatrix : PySem.W.subIn K (.ref x_BadMatrix) (.type "ValueError") = some true)
    (xop : PySem.W.nsIn K cStatics "thirdparty.any" = some none)
    (xtop : (PySem.Challenge.pw_anytruths_k86_formulas_parts_put.main.scope.names.lookup ("super" : Str)).isSome = false)
    (yh_BadFormula : PySem.W.hasDictIn K x_BadFormula = true)
    (ys_BadFormula : PySem.W.subIn K (.ref x_BadFormula) (.ref x_BadFormula) = some true)
    (yg_BadFormula : PySem.W.findIn K (.ref x_BadFormula) "__getattribute__" = some (some (.builtin "BaseException.__getattribute__")))
    (yt_BadFormula : PySem.W.findIn K (.ref x_BadFormula) "__getattr__" = some none)
    (yc_BadFormula : PySem.W.isClsIn K x_BadFormula = true)
    (ya_BadFormula : PySem.W.findIn K (.ref x_BadFormula) "__class__" = some (some (.builtin "object.__class__")))
    (ym_BadFormula : PySem.W.mroIn K x_BadFormula (.type "object") = some true)
    (yn : PySem.W.specialIn K (.builtin "object.__class__") "__get__" = some (some (.builtin "getset_descriptor.__get__")))
    (yk : PySem.W.takesIn K (.builtin "object.__class__") = some true)
    (kq_BadFormula_AnytruthsError : PySem.W.kitOne K (.ref x_BadFormula) (.ref x_AnytruthsError) = some true)
    (kq_BadFormula_ValueError : PySem.W.kitOne K (.ref x_BadFormula) (.type "ValueError") = some true)
    : ∃ fd : FuncData, (∀ (s : Shared) (v : Value), BindsTo s fd ⟨[v], []⟩ [("script", v)]) ∧ ∀ base : Heap, K.In base → base.Ns mainGlobals mg → FnOk theP w K mg base (L2.CX theP w) 11 fa fd ["script"] (mkSp K 1 sp_law) := by
  have e := hfa.symm.trans (PySem.W.mg_of X G a37)
  cases e
  have T : Txt K mg c_Matrix := ⟨PySem.W.mg_none_of X G b_len, PySem.W.mg_none_of X G b_abs, PySem.W.mg_none_of X G b_int, PySem.W.mg_none_of X G b_tuple, PySem.W.mg_none_of X G b_list, PySem.W.mg_none_of X G b_dict, PySem.W.mg_none_of X G b_isinstance, PySem.W.mg_none_of X G b_range, PySem.W.mg_none_of X G b_reversed, PySem.W.mg_none_of X G b_sorted, PySem.W.mg_none_of X G b_str, PySem.W.mg_none_of X G b_bool, PySem.W.mg_none_of X G b_super, PySem.W.mg_none_of X G b_ValueError, ⟨pg_Matrix, hd_Matrix, po_Matrix, sa_Matrix⟩, n_Matrix_size, n_Matrix_designated, n_Matrix_tables, n_Matrix_names, n_Matrix_loose, n_Matrix__places, n_Matrix__entries, ⟨_, PySem.W.mg_of X G g_LEAST_SIZE, ⟨_, rfl⟩⟩, ⟨_, PySem.W.mg_of X G g_GREATEST_SIZE, ⟨_, rfl⟩⟩, ⟨_, PySem.W.mg_of X G g_PLACE_LIMIT, ⟨_, rfl⟩⟩, ⟨_, PySem.W.mg_of X G g_ROW_LIMIT, ⟨_, rfl⟩⟩, ⟨_, PySem.W.mg_of X G g_TABLE_LIMIT, ⟨_, rfl⟩⟩⟩
  have F_is_letter := fun_mk (st := s_is_letter) l1 c1 k1
  have b_is_letter_ := F_is_letter.binds (ps := ps_is_letter) fun _ _ _ _ _ _ us hl => match us, hl with | [_], _ => rfl
  have F_first_word := fun_mk (st := s_first_word) l2 c2 k2
  have b_first_word_ := F_first_word.binds (ps := ps_first_word) fun _ _ _ _ _ _ us hl => match us, hl with | [_], _ => rfl
  have F_is_value := fun_mk (st := s_is_value) l3 c3 k3
  have b_is_value_ := F_is_value.binds (ps := ps_is_value) fun _ _ _ _ _ _ us hl => match us, hl with | [_, _], _ => rfl
  have F_is_sign := fun_mk (st := s_is_sign) l4 c4 k4
  have b_is_sign_ := F_is_sign.binds (ps := ps_is_sign) fun _ _ _ _ _ _ us hl => match us, hl with | [_, _], _ => rfl
  have F_row_count := fun_mk (st := s_row_count) l5 c5 k5
  have b_row_count_ := F_row_count.binds (ps := ps_row_count) fun _ _ _ _ _ _ us hl => match us, hl with | [_, _], _ => rfl
  have F_is_name := fun_mk (st := s_is_name) l6 c6 k6
  have b_is_name_ := F_is_name.binds (ps := ps_is_name) fun _ _ _ _ _ _ us hl => match us, hl with | [_], _ => rfl
  have F_is_table := fun_mk (st := s_is_table) l7 c7 k7
  have b_is_table_ := F_is_table.binds (ps := ps_is_table) fun _ _ _ _ _ _ us hl => match us, hl with | [_, _, _], _ => rfl
  have F_loose_table := fun_mk (st := s_loose_table) l8 c8 k8
  have b_loose_table_ := F_loose_table.binds (ps := ps_loose_table) fun _ _ _ _ _ _ us hl => match us, hl with | [_], _ => rfl
  have F_matrix_fault := fun_mk (st := s_matrix_fault) l9 c9 k9
  have b_matrix_fault_ := F_matrix_fault.binds (ps := ps_matrix_fault) fun _ _ _ _ _ _ us hl => match us, hl with | [_, _, _], _ => rfl
  have F_law_cell := fun_mk (st := s_law_cell) l10 c10 k10
  have b_law_cell_ := F_law_cell.binds (ps := ps_law_cell) fun _ _ _ _ _ _ us hl => match us, hl with | [_, _], _ => rfl
  have F_law_stream := fun_mk (st := s_law_stream) l11 c11 k11
  have b_law_stream_ := F_law_stream.binds (ps := ps_law_stream) fun _ _ _ _ _ _ us hl => match us, hl with | [_], _ => rfl
  have F_law_next := fun_mk (st := s_law_next) l12 c12 k12
  have b_law_next_ := F_law_next.binds (ps := ps_law_next) fun _ _ _ _ _ _ us hl => match us, hl with | [_, _], _ => rfl
  have F_law_letter := fun_mk (st := s_law_letter) l13 c13 k13
  have b_law_letter_ := F_law_letter.binds (ps := ps_law_letter) fun _ _ _ _ _ _ us hl => match us, hl with | [_], _ => rfl
  have F_law_name := fun_mk (st := s_law_name) l14 c14 k14
  have b_law_name_ := F_law_name.binds (ps := ps_law_name) fun _ _ _ _ _ _ us hl => match us, hl with | [_], _ => rfl
  have F_law_tables := fun_mk (st := s_law_tables) l15 c15 k15
  have b_law_tables_ := F_law_tables.binds (ps := ps_law_tables) fun _ _ _ _ _ _ us hl => match us, hl with | [_], _ => rfl
  have F_law_order := fun_mk (st := s_law_order) l16 c16 k16
  have b_law_order_ := F_law_order.binds (ps := ps_law_order) fun _ _ _ _ _ _ us hl => match us, hl with | [_], _ => rfl
  have F_law_is_letter := fun_mk (st := s_law_is_letter) l17 c17 k17
  have b_law_is_letter_ := F_law_is_letter.binds (ps := ps_law_is_letter) fun _ _ _ _ _ _ us hl => match us, hl with | [_], _ => rfl
  have F_law_fault := fun_mk (st := s_law_fault) l18 c18 k18
  have b_law_fault_ := F_law_fault.binds (ps := ps_law_fault) fun _ _ _ _ _ _ us hl => match us, hl with | [_, _], _ => rfl
  have F_law_same_integer := fun_mk (st := s_law_same_integer) l19 c19 k19
  have b_law_same_integer_ := F_law_same_integer.binds (ps := ps_law_same_integer) fun _ _ _ _ _ _ us hl => match us, hl with | [_, _], _ => rfl
  have F_law_same_texts := fun_mk (st := s_law_same_texts) l20 c20 k20
  have b_law_same_texts_ := F_law_same_texts.binds (ps := ps_law_same_texts) fun _ _ _ _ _ _ us hl => match us, hl with | [_, _], _ => rfl
  have F_Matrix_places := fun_mk (st := s_Matrix_places) l21 c21 k21
  have b_Matrix_places_ := F_Matrix_places.binds (ps := ps_Matrix_places) fun _ _ _ _ _ _ us hl => match us, hl with | [_, _], _ => rfl
  have F_formula_fault := fun_mk (st := s_formula_fault) l22 c22 k22
  have b_formula_fault_ := F_formula_fault.binds (ps := ps_formula_fault) fun _ _ _ _ _ _ us hl => match us, hl with | [_, _], _ => rfl
  have F_formula_arguments := fun_mk (st := s_formula_arguments) l23 c23 k23
  have b_formula_arguments_ := F_formula_arguments.binds (ps := ps_formula_arguments) fun _ _ _ _ _ _ us hl => match us, hl with | [_, _], _ => rfl
  have F_is_formula := fun_mk (st := s_is_formula) l24 c24 k24
  have b_is_formula_ := F_is_formula.binds (ps := ps_is_formula) fun _ _ _ _ _ _ us hl => match us, hl with | [_, _], _ => rfl
  have F_formula_order := fun_mk (st := s_formula_order) l25 c25 k25
  have b_formula_order_ := F_formula_order.binds (ps := ps_formula_order) fun _ _ _ _ _ _ us hl => match us, hl with | [_], _ => rfl
  have F_formula_letters := fun_mk (st := s_formula_letters) l26 c26 k26
  have b_formula_letters_ := F_formula_letters.binds (ps := ps_formula_letters) fun _ _ _ _ _ _ us hl => match us, hl with | [_], _ => rfl
  have F_put := fun_mk (st := s_put) l27 c27 k27
  have b_put_ := F_put.binds (ps := ps_put) fun _ _ _ _ _ _ us hl => match us, hl with | [_, _], _ => rfl
  have F_need_formula := fun_mk (st := s_need_formula) l28 c28 k28
  have b_need_formula_ := F_need_formula.binds (ps := ps_need_formula) fun _ _ _ _ _ _ us hl => match us, hl with | [_, _], _ => rfl
  have F_Matrix_init := fun_mk (st := s_Matrix_init) l29 c29 k29
  have b_Matrix_init_ := F_Matrix_init.binds (ps := ps_Matrix_init) fun _ _ _ _ _ _ us hl => match us, hl with | [_, _, _, _], _ => rfl
  have F_all_parts := fun_mk (st := s_all_parts) l30 c30 k30
  have b_all_parts_ := F_all_parts.binds (ps := ps_all_parts) fun _ _ _ _ _ _ us hl => match us, hl with | [_, _], _ => rfl
  have F_formula_parts := fun_mk (st := s_formula_parts) l31 c31 k31
  have b_formula_parts_ := F_formula_parts.binds (ps := ps_formula_parts) fun _ _ _ _ _ _ us hl => match us, hl with | [_, _], _ => rfl
  have F_law_pool := fun_mk (st := s_law_pool) l32 c32 k32
  have b_law_pool_ := F_law_pool.binds (ps := ps_law_pool) fun _ _ _ _ _ _ us hl => match us, hl with | [_, _], _ => rfl
  have F_law_spoilt := fun_mk (st := s_law_spoilt) l33 c33 k33
  have b_law_spoilt_ := F_law_spoilt.binds (ps := ps_law_spoilt) fun _ _ _ _ _ _ us hl => match us, hl with | [_, _, _], _ => rfl
  have F_law_needed := fun_mk (st := s_law_needed) l34 c34 k34
  have b_law_needed_ := F_law_needed.binds (ps := ps_law_needed) fun _ _ _ _ _ _ us hl => match us, hl with | [_, _], _ => rfl
  have F_law_images := fun_mk (st := s_law_images) l35 c35 k35
  have b_law_images_ := F_law_images.binds (ps := ps_law_images) fun _ _ _ _ _ _ us hl => match us, hl with | [_, _], _ => rfl
  have F_law_right_formula := fun_mk (st := s_law_right_formula) l36 c36 k36
  have b_law_right_formula_ := F_law_right_formula.binds (ps := ps_law_right_formula) fun _ _ _ _ _ _ us hl => match us, hl with | [_, _], _ => rfl
  have F_law := fun_mk (st := s_law) l37 c37 k37
  have b_law_ := F_law.binds (ps := ps_law) fun _ _ _ _ _ _ us hl => match us, hl with | [_], _ => rfl
  refine ⟨PySem.W.fnOf "law" "law" (defArgs s_law) (defBody s_law) (defScope s_law) .none kV37 dc37 pm37 an37 cd37 ct37, fun s v => .of_eq rfl, fun base _ _ => ?_⟩
  have oex_NoConnective : OexC K x_NoConnective := ⟨⟨_, _, _, _, _, _, _, _, _, _, _, _, _, _, _, xL_NoConnective, xr_NoConnective⟩, xs_NoConnective, xe_NoConnective, xt_NoConnective, xk_NoConnective⟩
  have sup_NoConnective : SupX theP K mg x_NoConnective cc_NoConnective cda_NoConnective := ⟨⟨_, _, _, xg_NoConnective⟩, ⟨_, _, _, _, _, _, xh_NoConnective, xv_NoConnective, xw_NoConnective⟩, xop, xm_NoConnective, xu_NoConnective, xtop, PySem.W.mg_none_of X G b_super⟩
  have itx_NoConnective : InitTx (defBody (inClass (top 5) 0)) (defArgs (inClass (top 5) 0)) (defScope (inClass (top 5) 0)) "name" "name" := ⟨⟨_, _, _, _, _, _, _, _, _, _, _, _, rfl, fun _ => rfl⟩, rfl, by decide +kernel, by decide +kernel, by decide +kernel, by decide +kernel, by decide, by decide, by decide +kernel, rfl, rfl, rfl⟩
  have X_NoConnective : XDef theP w K mg base "NoConnective" x_NoConnective "name" := ⟨oex_NoConnective, PySem.W.mg_of X G xa_NoConnective, by decide, fI_NoConnective, _, "name", xi_NoConnective, xf_NoConnective, Binds.all (fun us hl => match us, hl with | [_, _], _ => rfl), fun CX k => initX_ok sup_NoConnective oex_NoConnective xn_NoConnective xl_NoConnective xc_NoConnective itx_NoConnective⟩
  have oex_BadFormula : OexC K x_BadFormula := ⟨⟨_, _, _, _, _, _, _, _, _, _, _, _, _, _, _, xL_BadFormula, xr_BadFormula⟩, xs_BadFormula, xe_BadFormula, xt_BadFormula, xk_BadFormula⟩
  have sup_BadFormula : SupX theP K mg x_BadFormula cc_BadFormula cda_BadFormula := ⟨⟨_, _, _, xg_BadFormula⟩, ⟨_, _, _, _, _, _, xh_BadFormula, xv_BadFormula, xw_BadFormula⟩, xop, xm_BadFormula, xu_BadFormula, xtop, PySem.W.mg_none_of X G b_super⟩
  have itx_BadFormula : InitTx (defBody (inClass (top 4) 0)) (defArgs (inClass (top 4) 0)) (defScope (inClass (top 4) 0)) "place" "place" := ⟨⟨_, _, _, _, _, _, _, _, _, _, _, _, rfl, fun _ => rfl⟩, rfl, by decide +kernel, by decide +kernel, by decide +kernel, by decide +kernel, by decide, by decide, by decide +kernel, rfl, rfl, rfl⟩
  have X_BadFormula : XDef theP w K mg base "BadFormula" x_BadFormula "place" := ⟨oex_BadFormula, PySem.W.mg_of X G xa_BadFormula, by decide, fI_BadFormula, _, "place", xi_BadFormula, xf_BadFormula, Binds.all (fun us hl => match us, hl with | [_, _], _ => rfl), fun CX k => initX_ok sup_BadFormula oex_BadFormula xn_BadFormula xl_BadFormula xc_BadFormula itx_BadFormula⟩
  have oex_BadMatrix : OexC K x_BadMatrix := ⟨⟨_, _, _, _, _, _, _, _, _, _, _, _, _, _, _, xL_BadMatrix, xr_BadMatrix⟩, xs_BadMatrix, xe_BadMatrix, xt_BadMatrix, xk_BadMatrix⟩
  have sup_BadMatrix : SupX theP K mg x_BadMatrix cc_BadMatrix cda_BadMatrix := ⟨⟨_, _, _, xg_BadMatrix⟩, ⟨_, _, _, _, _, _, xh_BadMatrix, xv_BadMatrix, xw_BadMatrix⟩, xop, xm_BadMatrix, xu_BadMatrix, xtop, PySem.W.mg_none_of X G b_super⟩
  have itx_BadMatrix : InitTx (defBody (inClass (top 3) 0)) (defArgs (inClass (top 3) 0)) (defScope (inClass (top 3) 0)) "place" "place" := ⟨⟨_, _, _, _, _, _, _, _, _, _, _, _, rfl, fun _ => rfl⟩, rfl, by decide +kernel, by decide +kernel, by decide +kernel, by decide +kernel, by decide, by decide, by decide +kernel, rfl, rfl, rfl⟩
  have X_BadMatrix : XDef theP w K mg base "BadMatrix" x_BadMatrix "place" := ⟨oex_BadMatrix, PySem.W.mg_of X G xa_BadMatrix, by decide, fI_BadMatrix, _, "place", xi_BadMatrix, xf_BadMatrix, Binds.all (fun us hl => match us, hl with | [_, _], _ => rfl), fun CX k => initX_ok sup_BadMatrix oex_BadMatrix xn_BadMatrix xl_BadMatrix xc_BadMatrix itx_BadMatrix⟩
  have XC_BadFormula : XC K mg "BadFormula" x_BadFormula "place" := ⟨PySem.W.mg_of X G xa_BadFormula, ⟨xe_BadFormula, yh_BadFormula, xt_BadFormula⟩, ys_BadFormula, ⟨yg_BadFormula, yt_BadFormula, xe_BadFormula, yh_BadFormula⟩, xn_BadFormula, ⟨yc_BadFormula, yg_BadFormula, yt_BadFormula, xe_BadFormula, ya_BadFormula, yn, yk, ym_BadFormula⟩⟩
  have mq_AnytruthsError := PySem.W.mg_of X G ao_AnytruthsError
  have D_is_letter := fd_is_letter (P := theP) (w := w) (base := base) T  F_is_letter b_is_letter_ (PySem.W.mg_of X G a1) k1
  have D_first_word := fd_first_word (P := theP) (w := w) (base := base) T  F_first_word b_first_word_ (PySem.W.mg_of X G a2) k2
  have D_is_value := fd_is_value (P := theP) (w := w) (base := base) T  F_is_value b_is_value_ (PySem.W.mg_of X G a3) k3
  have D_is_sign := fd_is_sign (P := theP) (w := w) (base := base) T D_is_value F_is_sign b_is_sign_ (PySem.W.mg_of X G a4) k4
  have D_row_count := fd_row_count (P := theP) (w := w) (base := base) T  F_row_count b_row_count_ (PySem.W.mg_of X G a5) k5
  have D_is_name := fd_is_name (P := theP) (w := w) (base := base) T  F_is_name b_is_name_ (PySem.W.mg_of X G a6) k6
  have D_is_table := fd_is_table (P := theP) (w := w) (base := base) T D_row_count D_is_sign F_is_table b_is_table_ (PySem.W.mg_of X G a7) k7
  have D_loose_table := fd_loose_table (P := theP) (w := w) (base := base) T  F_loose_table b_loose_table_ (PySem.W.mg_of X G a8) k8
  have D_matrix_fault := fd_matrix_fault (P := theP) (w := w) (base := base) T D_is_sign D_is_name D_is_table F_matrix_fault b_matrix_fault_ (PySem.W.mg_of X G a9) k9
  have D_law_cell := fd_law_cell (P := theP) (w := w) (base := base) T  F_law_cell b_law_cell_ (PySem.W.mg_of X G a10) k10
  have D_law_stream := fd_law_stream (P := theP) (w := w) (base := base) T  F_law_stream b_law_stream_ (PySem.W.mg_of X G a11) k11
  have D_law_next := fd_law_next (P := theP) (w := w) (base := base) T  F_law_next b_law_next_ (PySem.W.mg_of X G a12) k12
  have D_law_letter := fd_law_letter (P := theP) (w := w) (base := base) T D_law_next F_law_letter b_law_letter_ (PySem.W.mg_of X G a13) k13
  have D_law_name := fd_law_name (P := theP) (w := w) (base := base) T D_law_next D_law_letter F_law_name b_law_name_ (PySem.W.mg_of X G a14) k14
  have D_law_tables := fd_law_tables (P := theP) (w := w) (base := base) T D_law_next D_law_name F_law_tables b_law_tables_ (PySem.W.mg_of X G a15) k15
  have D_law_order := fd_law_order (P := theP) (w := w) (base := base) T  F_law_order b_law_order_ (PySem.W.mg_of X G a16) k16
  have D_law_is_letter := fd_law_is_letter (P := theP) (w := w) (base := base) T  F_law_is_letter b_law_is_letter_ (PySem.W.mg_of X G a17) k17
  have D_law_fault := fd_law_fault (P := theP) (w := w) (base := base) T D_law_is_letter F_law_fault b_law_fault_ (PySem.W.mg_of X G a18) k18
  have D_law_same_integer := fd_law_same_integer (P := theP) (w := w) (base := base) T  F_law_same_integer b_law_same_integer_ (PySem.W.mg_of X G a19) k19
  have D_law_same_texts := fd_law_same_texts (P := theP) (w := w) (base := base) T  F_law_same_texts b_law_same_texts_ (PySem.W.mg_of X G a20) k20
  have D_Matrix_places := fd_Matrix_places (P := theP) (w := w) (base := base) T X_NoConnective F_Matrix_places b_Matrix_places_ ⟨a21, i21, k21⟩
  have D_formula_fault := fd_formula_fault (P := theP) (w := w) (base := base) T D_is_letter D_Matrix_places F_formula_fault b_formula_fault_ (PySem.W.mg_of X G a22) k22
  have D_formula_arguments := fd_formula_arguments (P := theP) (w := w) (base := base) T D_is_letter D_Matrix_places F_formula_arguments b_formula_arguments_ (PySem.W.mg_of X G a23) k23
  have D_is_formula := fd_is_formula (P := theP) (w := w) (base := base) T D_formula_fault F_is_formula b_is_formula_ (PySem.W.mg_of X G a24) k24
  have D_formula_order := fd_formula_order (P := theP) (w := w) (base := base) T  F_formula_order b_formula_order_ (PySem.W.mg_of X G a25) k25
  have D_formula_letters := fd_formula_letters (P := theP) (w := w) (base := base) T D_is_letter F_formula_letters b_formula_letters_ (PySem.W.mg_of X G a26) k26
  have D_put := fd_put (P := theP) (w := w) (base := base) T  F_put b_put_ (PySem.W.mg_of X G a27) k27
  have D_need_formula := fd_need_formula (P := theP) (w := w) (base := base) T D_formula_fault X_BadFormula F_need_formula b_need_formula_ (PySem.W.mg_of X G a28) k28
  have D_Matrix_init := fd_Matrix_init (P := theP) (w := w) (base := base) T D_matrix_fault D_loose_table X_BadMatrix F_Matrix_init b_Matrix_init_ (PySem.W.mg_of X G aC_Matrix) ⟨mk_Matrix, a29, i29, kc_Matrix⟩
  have D_all_parts := fd_all_parts (P := theP) (w := w) (base := base) T D_is_letter D_Matrix_places D_formula_order F_all_parts b_all_parts_ (PySem.W.mg_of X G a30) k30
  have D_formula_parts := fd_formula_parts (P := theP) (w := w) (base := base) T D_all_parts F_formula_parts b_formula_parts_ (PySem.W.mg_of X G a31) k31
  have D_law_pool := fd_law_pool (P := theP) (w := w) (base := base) T D_law_next D_law_letter F_law_pool b_law_pool_ (PySem.W.mg_of X G a32) k32
  have D_law_spoilt := fd_law_spoilt (P := theP) (w := w) (base := base) T D_law_next D_law_name D_law_letter F_law_spoilt b_law_spoilt_ (PySem.W.mg_of X G a33) k33
  have D_law_needed := fd_law_needed (P := theP) (w := w) (base := base) T D_need_formula XC_BadFormula mq_AnytruthsError kq_BadFormula_AnytruthsError kq_BadFormula_ValueError F_law_needed b_law_needed_ (PySem.W.mg_of X G a34) k34
  have D_law_images := fd_law_images (P := theP) (w := w) (base := base) T D_law_is_letter F_law_images b_law_images_ (PySem.W.mg_of X G a35) k35
  have D_law_right_formula := fd_law_right_formula (P := theP) (w := w) (base := base) T D_law_order D_formula_fault D_is_formula D_law_same_texts D_formula_arguments D_formula_parts D_all_parts D_law_is_letter D_formula_letters D_formula_order D_first_word F_law_right_formula b_law_right_formula_ (PySem.W.mg_of X G a36) k36
  obtain ⟨fd0, hf0, hb0⟩ : ∃ fd0, FnD theP w K mg base 11 fa fd0 ps_law sp_law ∧ fd0 = _ := ⟨_, fnD_of F_law sc_law (fun cdv A outer s H E hr => dv_law T D_law_tables D_law_stream D_law_cell D_Matrix_init D_law_pool D_law_right_formula D_law_is_letter D_law_next D_law_images D_put D_law_spoilt D_law_fault D_law_same_integer D_formula_fault D_is_formula D_law_needed cdv A outer s H E hr) (fun as Qd Ed hl h => by apply ok_law <;> assumption), rfl⟩
  subst hb0
  exact hf0.ok
theorem start {K : PySem.W.Frag} {H : Hp} {a : Addr} {ns : List Int} (hO : Only H) (hS : SqL K H a (ns.map V.int)) : mkSp K 1 sp_law [.ref a] H (fun v _ => v = .bl true) fun _ _ _ => False := by
  refine ⟨fun _ => False, [.d (.scr (ns.map .int))], fun r _ => r = .d (.bl true), fun _ _ _ => False, rfl, rfl, fun _ h => h.elim, fun a h => by simp [owns, ownA] at h, List.nodup_nil, fun i s hi => ?_, ⟨ns, rfl, rfl⟩, fun r xs v H' hr hq => ?_, fun _ _ _ _ _ _ _ _ _ _ z => z⟩
  · cases i with
    | zero =>
      obtain rfl : Slot.d (.scr (ns.map .int)) = s := by simpa using hi
      refine ⟨.ref a, rfl, a, ns.map V.int, rfl, ?_, ?_⟩
      · rcases hS with (h | ⟨o, h⟩) | h
        · rcases hO a with z | ⟨o, xs, z⟩
          · rw [z] at h; cases h
          · rw [z] at h; cases h
        · exact .inl ⟨o, h⟩
        · exact .inr h
      · clear hS hi
        induction ns with
        | nil => rfl
        | cons n r ih => exact ⟨_, _, rfl, rfl, ih⟩
    | succ i => simp at hi
  · subst hq
    exact hr.2.2
end A
open PySem PySem.W PyProof.Rows
set_option maxRecDepth 100000 in
set_option maxHeartbeats 0 in
theorem PySem.Challenge.cw_anytruths_k86_formulas_parts_put_holds : PySem.Challenge.rw_anytruths_k86_formulas_parts_put.Holds := by
  w_on; o_law; k_head; (case hw => w_witness2)
  k_fill
  refine L2.walk_of (l := PySem.Challenge.rw_anytruths_k86_formulas_parts_put) (n := 63) (k := 11) (x := "script") (CX := fun w => L2.CX A.theP w) (sp := fun w => DL.mkSp _ 1 A.sp_law) rfl (by decide) rfl ⟨rfl, by decide, by decide⟩ (fun w h Y => PySem.W.kIn_of Y) ?F (fun _ _ a ns _ hO hS => A.start hO hS) (fun _ _ _ _ _ h => ?E)
  case E =>
    obtain ⟨_, _, _, _, _, _, _, _, _, _, _, _, z⟩ := h
    exact z
  case F =>
    intro w mg fa h KX G hmg
    refine' A.all_mk KX G hmg ?aC_Matrix ?pg_Matrix ?hd_Matrix ?po_Matrix ?sa_Matrix ?mk_Matrix ?kc_Matrix ?n_Matrix_size ?n_Matrix_designated ?n_Matrix_tables ?n_Matrix_names ?n_Matrix_loose ?n_Matrix__places ?n_Matrix__entries ?b_len ?b_abs ?b_int ?b_tuple ?b_list ?b_dict ?b_isinstance ?b_range ?b_reversed ?b_sorted ?b_str ?b_bool ?b_super ?b_ValueError ?g_LEAST_SIZE ?g_GREATEST_SIZE ?g_PLACE_LIMIT ?g_ROW_LIMIT ?g_TABLE_LIMIT ?a1 ?l1 ?c1 ?k1 ?a2 ?l2 ?c2 ?k2 ?a3 ?l3 ?c3 ?k3 ?a4 ?l4 ?c4 ?k4 ?a5 ?l5 ?c5 ?k5 ?a6 ?l6 ?c6 ?k6 ?a7 ?l7 ?c7 ?k7 ?a8 ?l8 ?c8 ?k8 ?a9 ?l9 ?c9 ?k9 ?a10 ?l10 ?c10 ?k10 ?a11 ?l11 ?c11 ?k11 ?a12 ?l12 ?c12 ?k12 ?a13 ?l13 ?c13 ?k13 ?a14 ?l14 ?c14 ?k14 ?a15 ?l15 ?c15 ?k15 ?a16 ?l16 ?c16 ?k16 ?a17 ?l17 ?c17 ?k17 ?a18 ?l18 ?c18 ?k18 ?a19 ?l19 ?c19 ?k19 ?a20 ?l20 ?c20 ?k20 ?a21 ?i21 ?l21 ?c21 ?k21 ?a22 ?l22 ?c22 ?k22 ?a23 ?l23 ?c23 ?k23 ?a24 ?l24 ?c24 ?k24 ?a25 ?l25 ?c25 ?k25 ?a26 ?l26 ?c26 ?k26 ?a27 ?l27 ?c27 ?k27 ?a28 ?l28 ?c28 ?k28 ?a29 ?i29 ?l29 ?c29 ?k29 ?a30 ?l30 ?c30 ?k30 ?a31 ?l31 ?c31 ?k31 ?a32 ?l32 ?c32 ?k32 ?a33 ?l33 ?c33 ?k33 ?a34 ?l34 ?c34 ?k34 ?a35 ?l35 ?c35 ?k35 ?a36 ?l36 ?c36 ?k36 ?a37 ?l37 ?c37 ?k37 ?ao_AnytruthsError ?xa_NoConnective ?xL_NoConnective ?xr_NoConnective ?xs_NoConnective ?xe_NoConnective ?xt_NoConnective ?xk_NoConnective ?xn_NoConnective ?xi_NoConnective ?xf_NoConnective ?xl_NoConnective ?xc_NoConnective ?xg_NoConnective ?xh_NoConnective ?xv_NoConnective ?xw_NoConnective ?xm_NoConnective ?xu_NoConnective ?xa_BadFormula ?xL_BadFormula ?xr_BadFormula ?xs_BadFormula ?xe_BadFormula ?xt_BadFormula ?xk_BadFormula ?xn_BadFormula ?xi_BadFormula ?xf_BadFormula ?xl_BadFormula ?xc_BadFormula ?xg_BadFormula ?xh_BadFormula ?xv_BadFormula ?xw_BadFormula ?xm_BadFormula ?xu_BadFormula ?xa_BadMatrix ?xL_BadMatrix ?xr_BadMatrix ?xs_BadMatrix ?xe_BadMatrix ?xt_BadMatrix ?xk_BadMatrix ?xn_BadMatrix ?xi_BadMatrix ?xf_BadMatrix ?xl_BadMatrix ?xc_BadMatrix ?xg_BadMatrix ?xh_BadMatrix ?xv_BadMatrix ?xw_BadMatrix ?xm_BadMatrix ?xu_BadMatrix ?xop ?xtop ?yh_BadFormula ?ys_BadFormula ?yg_BadFormula ?yt_BadFormula ?yc_BadFormula ?ya_BadFormula ?ym_BadFormula ?yn ?yk ?kq_BadFormula_AnytruthsError ?kq_BadFormula_ValueError
    (case aC_Matrix => first | k_is | ks_is | kit_is | rfl | decide +kernel)
    (case pg_Matrix => first | k_is | ks_is | kit_is | rfl | decide +kernel)
    (case hd_Matrix => first | k_is | ks_is | kit_is | rfl | decide +kernel)
    (case po_Matrix => first | k_is | ks_is | kit_is | rfl | decide +kernel)
    (case sa_Matrix => first | k_is | ks_is | kit_is | rfl | decide +kernel)
    (case mk_Matrix => first | k_is | ks_is | kit_is | rfl | decide +kernel)
    (case kc_Matrix => first | k_is | ks_is | kit_is | rfl | decide +kernel)
    (case n_Matrix_size => first | k_is | ks_is | kit_is | rfl | decide +kernel)
    (case n_Matrix_designated => first | k_is | ks_is | kit_is | rfl | decide +kernel)
    (case n_Matrix_tables => first | k_is | ks_is | kit_is | rfl | decide +kernel)
    (case n_Matrix_names => first | k_is | ks_is | kit_is | rfl | decide +kernel)
    (case n_Matrix_loose => first | k_is | ks_is | kit_is | rfl | decide +kernel)
    (case n_Matrix__places => first | k_is | ks_is | kit_is | rfl | decide +kernel)
    (case n_Matrix__entries => first | k_is | ks_is | kit_is | rfl | decide +kernel)
    (case b_len => first | k_is | ks_is | kit_is | rfl | decide +kernel)
    (case b_abs => first | k_is | ks_is | kit_is | rfl | decide +kernel)
    (case b_int => first | k_is | ks_is | kit_is | rfl | decide +kernel)
    (case b_tuple => first | k_is | ks_is | kit_is | rfl | decide +kernel)
    (case b_list => first | k_is | ks_is | kit_is | rfl | decide +kernel)
    (case b_dict => first | k_is | ks_is | kit_is | rfl | decide +kernel)
    (case b_isinstance => first | k_is | ks_is | kit_is | rfl | decide +kernel)
    (case b_range => first | k_is | ks_is | kit_is | rfl | decide +kernel)
    (case b_reversed => first | k_is | ks_is | kit_is | rfl | decide +kernel)
    (case b_sorted => first | k_is | ks_is | kit_is | rfl | decide +kernel)
    (case b_str => first | k_is | ks_is | kit_is | rfl | decide +kernel)
    (case b_bool => first | k_is | ks_is | kit_is | rfl | decide +kernel)
    (case b_super => first | k_is | ks_is | kit_is | rfl | decide +kernel)
    (case b_ValueError => first | k_is | ks_is | kit_is | rfl | decide +kernel)
    (case g_LEAST_SIZE => first | k_is | ks_is | kit_is | rfl | decide +kernel)
    (case g_GREATEST_SIZE => first | k_is | ks_is | kit_is | rfl | decide +kernel)
    (case g_PLACE_LIMIT => first | k_is | ks_is | kit_is | rfl | decide +kernel)
    (case g_ROW_LIMIT => first | k_is | ks_is | kit_is | rfl | decide +kernel)
    (case g_TABLE_LIMIT => first | k_is | ks_is | kit_is | rfl | decide +kernel)
    (case a1 => first | k_is | ks_is | kit_is | rfl | decide +kernel)
    (case l1 => first | k_is | ks_is | kit_is | rfl | decide +kernel)
    (case c1 => first | k_is | ks_is | kit_is | rfl | decide +kernel)
    (case k1 => first | k_is | ks_is | kit_is | rfl | decide +kernel)
    (case a2 => first | k_is | ks_is | kit_is | rfl | decide +kernel)
    (case l2 => first | k_is | ks_is | kit_is | rfl | decide +kernel)
    (case c2 => first | k_is | ks_is | kit_is | rfl | decide +kernel)
    (case k2 => first | k_is | ks_is | kit_is | rfl | decide +kernel)
    (case a3 => first | k_is | ks_is | kit_is | rfl | decide +kernel)
    (case l3 => first | k_is | ks_is | kit_is | rfl | decide +kernel)
    (case c3 => first | k_is | ks_is | kit_is | rfl | decide +kernel)
    (case k3 => first | k_is | ks_is | kit_is | rfl | decide +kernel)
    (case a4 => first | k_is | ks_is | kit_is | rfl | decide +kernel)
    (case l4 => first | k_is | ks_is | kit_is | rfl | decide +kernel)
    (case c4 => first | k_is | ks_is | kit_is | rfl | decide +kernel)
    (case k4 => first | k_is | ks_is | kit_is | rfl | decide +kernel)
    (case a5 => first | k_is | ks_is | kit_is | rfl | decide +kernel)
    (case l5 => first | k_is | ks_is | kit_is | rfl | decide +kernel)
    (case c5 => first | k_is | ks_is | kit_is | rfl | decide +kernel)
    (case k5 => first | k_is | ks_is | kit_is | rfl | decide +kernel)
    (case a6 => first | k_is | ks_is | kit_is | rfl | decide +kernel)
    (case l6 => first | k_is | ks_is | kit_is | rfl | decide +kernel)
    (case c6 => first | k_is | ks_is | kit_is | rfl | decide +kernel)
    (case k6 => first | k_is | ks_is | kit_is | rfl | decide +kernel)
    (case a7 => first | k_is | ks_is | kit_is | rfl | decide +kernel)
    (case l7 => first | k_is | ks_is | kit_is | rfl | decide +kernel)
    (case c7 => first | k_is | ks_is | kit_is | rfl | decide +kernel)
    (case k7 => first | k_is | ks_is | kit_is | rfl | decide +kernel)
    (case a8 => first | k_is | ks_is | kit_is | rfl | decide +kernel)
    (case l8 => first | k_is | ks_is | kit_is | rfl | decide +kernel)
    (case c8 => first | k_is | ks_is | kit_is | rfl | decide +kernel)
    (case k8 => first | k_is | ks_is | kit_is | rfl | decide +kernel)
    (case a9 => first | k_is | ks_is | kit_is | rfl | decide +kernel)
    (case l9 => first | k_is | ks_is | kit_is | rfl | decide +kernel)
    (case c9 => first | k_is | ks_is | kit_is | rfl | decide +kernel)
    (case k9 => first | k_is | ks_is | kit_is | rfl | decide +kernel)
    (case a10 => first | k_is | ks_is | kit_is | rfl | decide +kernel)
    (case l10 => first | k_is | ks_is | kit_is | rfl | decide +kernel)
    (case c10 => first | k_is | ks_is | kit_is | rfl | decide +kernel)
    (case k10 => first | k_is | ks_is | kit_is | rfl | decide +kernel)
    (case a11 => first | k_is | ks_is | kit_is | rfl | decide +kernel)
    (case l11 => first | k_is | ks_is | kit_is | rfl | decide +kernel)
    (case c11 => first | k_is | ks_is | kit_is | rfl | decide +kernel)
    (case k11 => first | k_is | ks_is | kit_is | rfl | decide +kernel)
    (case a12 => first | k_is | ks_is | kit_is | rfl | decide +kernel)
    (case l12 => first | k_is | ks_is | kit_is | rfl | decide +kernel)
    (case c12 => first | k_is | ks_is | kit_is | rfl | decide +kernel)
    (case k12 => first | k_is | ks_is | kit_is | rfl | decide +kernel)
    (case a13 => first | k_is | ks_is | kit_is | rfl | decide +kernel)
    (case l13 => first | k_is | ks_is | kit_is | rfl | decide +kernel)
    (case c13 => first | k_is | ks_is | kit_is | rfl | decide +kernel)
    (case k13 => first | k_is | ks_is | kit_is | rfl | decide +kernel)
    (case a14 => first | k_is | ks_is | kit_is | rfl | decide +kernel)
    (case l14 => first | k_is | ks_is | kit_is | rfl | decide +kernel)
    (case c14 => first | k_is | ks_is | kit_is | rfl | decide +kernel)
    (case k14 => first | k_is | ks_is | kit_is | rfl | decide +kernel)
    (case a15 => first | k_is | ks_is | kit_is | rfl | decide +kernel)
    (case l15 => first | k_is | ks_is | kit_is | rfl | decide +kernel)
    (case c15 => first | k_is | ks_is | kit_is | rfl | decide +kernel)
    (case k15 => first | k_is | ks_is | kit_is | rfl | decide +kernel)
    (case a16 => first | k_is | ks_is | kit_is | rfl | decide +kernel)
    (case l16 => first | k_is | ks_is | kit_is | rfl | decide +kernel)
    (case c16 => first | k_is | ks_is | kit_is | rfl | decide +kernel)
    (case k16 => first | k_is | ks_is | kit_is | rfl | decide +kernel)
    (case a17 => first | k_is | ks_is | kit_is | rfl | decide +kernel)
    (case l17 => first | k_is | ks_is | kit_is | rfl | decide +kernel)
    (case c17 => first | k_is | ks_is | kit_is | rfl | decide +kernel)
    (case k17 => first | k_is | ks_is | kit_is | rfl | decide +kernel)
    (case a18 => first | k_is | ks_is | kit_is | rfl | decide +kernel)
    (case l18 => first | k_is | ks_is | kit_is | rfl | decide +kernel)
    (case c18 => first | k_is | ks_is | kit_is | rfl | decide +kernel)
    (case k18 => first | k_is | ks_is | kit_is | rfl | decide +kernel)
    (case a19 => first | k_is | ks_is | kit_is | rfl | decide +kernel)
    (case l19 => first | k_is | ks_is | kit_is | rfl | decide +kernel)
    (case c19 => first | k_is | ks_is | kit_is | rfl | decide +kernel)
    (case k19 => first | k_is | ks_is | kit_is | rfl | decide +kernel)
    (case a20 => first | k_is | ks_is | kit_is | rfl | decide +kernel)
    (case l20 => first | k_is | ks_is | kit_is | rfl | decide +kernel)
    (case c20 => first | k_is | ks_is | kit_is | rfl | decide +kernel)
    (case k20 => first | k_is | ks_is | kit_is | rfl | decide +kernel)
    (case a21 => first | k_is | ks_is | kit_is | rfl | decide +kernel)
    (case i21 => first | k_is | ks_is | kit_is | rfl | decide +kernel)
    (case l21 => first | k_is | ks_is | kit_is | rfl | decide +kernel)
    (case c21 => first | k_is | ks_is | kit_is | rfl | decide +kernel)
    (case k21 => first | k_is | ks_is | kit_is | rfl | decide +kernel)
    (case a22 => first | k_is | ks_is | kit_is | rfl | decide +kernel)
    (case l22 => first | k_is | ks_is | kit_is | rfl | decide +kernel)
    (case c22 => first | k_is | ks_is | kit_is | rfl | decide +kernel)
    (case k22 => first | k_is | ks_is | kit_is | rfl | decide +kernel)
    (case a23 => first | k_is | ks_is | kit_is | rfl | decide +kernel)
    (case l23 => first | k_is | ks_is | kit_is | rfl | decide +kernel)
    (case c23 => first | k_is | ks_is | kit_is | rfl | decide +kernel)
    (case k23 => first | k_is | ks_is | kit_is | rfl | decide +kernel)
    (case a24 => first | k_is | ks_is | kit_is | rfl | decide +kernel)
    (case l24 => first | k_is | ks_is | kit_is | rfl | decide +kernel)
    (case c24 => first | k_is | ks_is | kit_is | rfl | decide +kernel)
    (case k24 => first | k_is | ks_is | kit_is | rfl | decide +kernel)
    (case a25 => first | k_is | ks_is | kit_is | rfl | decide +kernel)
    (case l25 => first | k_is | ks_is | kit_is | rfl | decide +kernel)
    (case c25 => first | k_is | ks_is | kit_is | rfl | decide +kernel)
    (case k25 => first | k_is | ks_is | kit_is | rfl | decide +kernel)
    (case a26 => first | k_is | ks_is | kit_is | rfl | decide +kernel)
    (case l26 => first | k_is | ks_is | kit_is | rfl | decide +kernel)
    (case c26 => first | k_is | ks_is | kit_is | rfl | decide +kernel)
    (case k26 => first | k_is | ks_is | kit_is | rfl | decide +kernel)
    (case a27 => first | k_is | ks_is | kit_is | rfl | decide +kernel)
    (case l27 => first | k_is | ks_is | kit_is | rfl | decide +kernel)
    (case c27 => first | k_is | ks_is | kit_is | rfl | decide +kernel)
    (case k27 => first | k_is | ks_is | kit_is | rfl | decide +kernel)
    (case a28 => first | k_is | ks_is | kit_is | rfl | decide +kernel)
    (case l28 => first | k_is | ks_is | kit_is | rfl | decide +kernel)
    (case c28 => first | k_is | ks_is | kit_is | rfl | decide +kernel)
    (case k28 => first | k_is | ks_is | kit_is | rfl | decide +kernel)
    (case a29 => first | k_is | ks_is | kit_is | rfl | decide +kernel)
    (case i29 => first | k_is | ks_is | kit_is | rfl | decide +kernel)
    (case l29 => first | k_is | ks_is | kit_is | rfl | decide +kernel)
    (case c29 => first | k_is | ks_is | kit_is | rfl | decide +kernel)
    (case k29 => first | k_is | ks_is | kit_is | rfl | decide +kernel)
    (case a30 => first | k_is | ks_is | kit_is | rfl | decide +kernel)
    (case l30 => first | k_is | ks_is | kit_is | rfl | decide +kernel)
    (case c30 => first | k_is | ks_is | kit_is | rfl | decide +kernel)
    (case k30 => first | k_is | ks_is | kit_is | rfl | decide +kernel)
    (case a31 => first | k_is | ks_is | kit_is | rfl | decide +kernel)
    (case l31 => first | k_is | ks_is | kit_is | rfl | decide +kernel)
    (case c31 => first | k_is | ks_is | kit_is | rfl | decide +kernel)
    (case k31 => first | k_is | ks_is | kit_is | rfl | decide +kernel)
    (case a32 => first | k_is | ks_is | kit_is | rfl | decide +kernel)
    (case l32 => first | k_is | ks_is | kit_is | rfl | decide +kernel)
    (case c32 => first | k_is | ks_is | kit_is | rfl | decide +kernel)
    (case k32 => first | k_is | ks_is | kit_is | rfl | decide +kernel)
    (case a33 => first | k_is | ks_is | kit_is | rfl | decide +kernel)
    (case l33 => first | k_is | ks_is | kit_is | rfl | decide +kernel)
    (case c33 => first | k_is | ks_is | kit_is | rfl | decide +kernel)
    (case k33 => first | k_is | ks_is | kit_is | rfl | decide +kernel)
    (case a34 => first | k_is | ks_is | kit_is | rfl | decide +kernel)
    (case l34 => first | k_is | ks_is | kit_is | rfl | decide +kernel)
    (case c34 => first | k_is | ks_is | kit_is | rfl | decide +kernel)
    (case k34 => first | k_is | ks_is | kit_is | rfl | decide +kernel)
    (case a35 => first | k_is | ks_is | kit_is | rfl | decide +kernel)
    (case l35 => first | k_is | ks_is | kit_is | rfl | decide +kernel)
    (case c35 => first | k_is | ks_is | kit_is | rfl | decide +kernel)
    (case k35 => first | k_is | ks_is | kit_is | rfl | decide +kernel)
    (case a36 => first | k_is | ks_is | kit_is | rfl | decide +kernel)
    (case l36 => first | k_is | ks_is | kit_is | rfl | decide +kernel)
    (case c36 => first | k_is | ks_is | kit_is | rfl | decide +kernel)
    (case k36 => first | k_is | ks_is | kit_is | rfl | decide +kernel)
    (case a37 => first | k_is | ks_is | kit_is | rfl | decide +kernel)
    (case l37 => first | k_is | ks_is | kit_is | rfl | decide +kernel)
    (case c37 => first | k_is | ks_is | kit_is | rfl | decide +kernel)
    (case k37 => first | k_is | ks_is | kit_is | rfl | decide +kernel)
    (case ao_AnytruthsError => first | k_is | ks_is | kit_is | rfl | decide +kernel)
    (case xa_NoConnective => first | k_is | ks_is | kit_is | rfl | decide +kernel)
    (case xL_NoConnective => first | k_is | ks_is | kit_is | rfl | decide +kernel)
    (case xr_NoConnective => first | k_is | ks_is | kit_is | rfl | decide +kernel)
    (case xs_NoConnective => first | k_is | ks_is | kit_is | rfl | decide +kernel)
    (case xe_NoConnective => first | k_is | ks_is | kit_is | rfl | decide +kernel)
    (case xt_NoConnective => first | k_is | ks_is | kit_is | rfl | decide +kernel)
    (case xk_NoConnective => first | k_is | ks_is | kit_is | rfl | decide +kernel)
    (case xn_NoConnective => first | k_is | ks_is | kit_is | rfl | decide +kernel)
    (case xi_NoConnective => first | k_is | ks_is | kit_is | rfl | decide +kernel)
    (case xf_NoConnective => first | k_is | ks_is | kit_is | rfl | decide +kernel)
    (case xl_NoConnective => first | k_is | ks_is | kit_is | rfl | decide +kernel)
    (case xc_NoConnective => first | k_is | ks_is | kit_is | rfl | decide +kernel)
    (case xg_NoConnective => first | k_is | ks_is | kit_is | rfl | decide +kernel)
    (case xh_NoConnective => first | k_is | ks_is | kit_is | rfl | decide +kernel)
    (case xv_NoConnective => first | k_is | ks_is | kit_is | rfl | decide +kernel)
    (case xw_NoConnective => first | k_is | ks_is | kit_is | rfl | decide +kernel)
    (case xm_NoConnective => first | k_is | ks_is | kit_is | rfl | decide +kernel)
    (case xu_NoConnective => first | k_is | ks_is | kit_is | rfl | decide +kernel)
    (case xa_BadFormula => first | k_is | ks_is | kit_is | rfl | decide +kernel)
    (case xL_BadFormula => first | k_is | ks_is | kit_is | rfl | decide +kernel)
    (case xr_BadFormula => first | k_is | ks_is | kit_is | rfl | decide +kernel)
    (case xs_BadFormula => first | k_is | ks_is | kit_is | rfl | decide +kernel)
    (case xe_BadFormula => first | k_is | ks_is | kit_is | rfl | decide +kernel)
    (case xt_BadFormula => first | k_is | ks_is | kit_is | rfl | decide +kernel)
    (case xk_BadFormula => first | k_is | ks_is | kit_is | rfl | decide +kernel)
    (case xn_BadFormula => first | k_is | ks_is | kit_is | rfl | decide +kernel)
    (case xi_BadFormula => first | k_is | ks_is | kit_is | rfl | decide +kernel)
    (case xf_BadFormula => first | k_is | ks_is | kit_is | rfl | decide +kernel)
    (case xl_BadFormula => first | k_is | ks_is | kit_is | rfl | decide +kernel)
    (case xc_BadFormula => first | k_is | ks_is | kit_is | rfl | decide +kernel)
    (case xg_BadFormula => first | k_is | ks_is | kit_is | rfl | decide +kernel)
    (case xh_BadFormula => first | k_is | ks_is | kit_is | rfl | decide +kernel)
    (case xv_BadFormula => first | k_is | ks_is | kit_is | rfl | decide +kernel)
    (case xw_BadFormula => first | k_is | ks_is | kit_is | rfl | decide +kernel)
    (case xm_BadFormula => first | k_is | ks_is | kit_is | rfl | decide +kernel)
    (case xu_BadFormula => first | k_is | ks_is | kit_is | rfl | decide +kernel)
    (case xa_BadMatrix => first | k_is | ks_is | kit_is | rfl | decide +kernel)
    (case xL_BadMatrix => first | k_is | ks_is | kit_is | rfl | decide +kernel)
    (case xr_BadMatrix => first | k_is | ks_is | kit_is | rfl | decide +kernel)
    (case xs_BadMatrix => first | k_is | ks_is | kit_is | rfl | decide +kernel)
    (case xe_BadMatrix => first | k_is | ks_is | kit_is | rfl | decide +kernel)
    (case xt_BadMatrix => first | k_is | ks_is | kit_is | rfl | decide +kernel)
    (case xk_BadMatrix => first | k_is | ks_is | kit_is | rfl | decide +kernel)
    (case xn_BadMatrix => first | k_is | ks_is | kit_is | rfl | decide +kernel)
    (case xi_BadMatrix => first | k_is | ks_is | kit_is | rfl | decide +kernel)
    (case xf_BadMatrix => first | k_is | ks_is | kit_is | rfl | decide +kernel)
    (case xl_BadMatrix => first | k_is | ks_is | kit_is | rfl | decide +kernel)
    (case xc_BadMatrix => first | k_is | ks_is | kit_is | rfl | decide +kernel)
    (case xg_BadMatrix => first | k_is | ks_is | kit_is | rfl | decide +kernel)
    (case xh_BadMatrix => first | k_is | ks_is | kit_is | rfl | decide +kernel)
    (case xv_BadMatrix => first | k_is | ks_is | kit_is | rfl | decide +kernel)
    (case xw_BadMatrix => first | k_is | ks_is | kit_is | rfl | decide +kernel)
    (case xm_BadMatrix => first | k_is | ks_is | kit_is | rfl | decide +kernel)
    (case xu_BadMatrix => first | k_is | ks_is | kit_is | rfl | decide +kernel)
    (case xop => first | k_is | ks_is | kit_is | rfl | decide +kernel)
    (case xtop => first | k_is | ks_is | kit_is | rfl | decide +kernel)
    (case yh_BadFormula => first | k_is | ks_is | kit_is | rfl | decide +kernel)
    (case ys_BadFormula => first | k_is | ks_is | kit_is | rfl | decide +kernel)
    (case yg_BadFormula => first | k_is | ks_is | kit_is | rfl | decide +kernel)
    (case yt_BadFormula => first | k_is | ks_is | kit_is | rfl | decide +kernel)
    (case yc_BadFormula => first | k_is | ks_is | kit_is | rfl | decide +kernel)
    (case ya_BadFormula => first | k_is | ks_is | kit_is | rfl | decide +kernel)
    (case ym_BadFormula => first | k_is | ks_is | kit_is | rfl | decide +kernel)
    (case yn => first | k_is | ks_is | kit_is | rfl | decide +kernel)
    (case yk => first | k_is | ks_is | kit_is | rfl | decide +kernel)
    (case kq_BadFormula_AnytruthsError => first | k_is | ks_is | kit_is | rfl | decide +kernel)
    (case kq_BadFormula_ValueError => first | k_is | ks_is | kit_is | rfl | decide +kernel)
