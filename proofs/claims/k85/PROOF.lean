import PyProof.Rows.All
import Wide.All
import OpenK.AllK
import Wide.FinOn
import HandS.ForMost
import HandS.ForExc
import HandS.Wide
import HandS.IsInst
import HandS.More
import HandS.Style
import HandS.Walk
import HandS.Defaults
import HandS.TryMany
import HandS.ExcOwn
import HandS.ExcIs
import HandS.SortKw
import HandS.WideBits
import HandS.TryOnly
import KE.DataMinMax
import KE.SortData
import HandS.SetFor
import HandS.HeadHook2
import HandS.HeadHook1
import HandS.Comp
import HandS.Replace
import PyProof.StrBlock2
import PySem.Challenge.RW_dutyproof_k85_whole_works_texts_by_any_s
import HandS.Text
import PyProof.StrLawsIn
import PyProof.FitsReplace
import KE.KStateDown
import HandS.Head0
import HandS.Head1
import HandS.Head2
import HandS.HeadEnd
import HandS.HeadWalk
section
set_option Elab.async false
set_option linter.all false
set_option maxRecDepth 100000
set_option autoImplicit false
/-! ML1: data without a heap (D), how it lies in a heap (Rep), a frame's slots and the mutable places (S), the relation of both (Rel). -/
namespace ML
open PySem PySem.Spec PyProof.Rows L2
abbrev St := L2.St
inductive D where
  | non | bl (b : Bool) | int (i : Int) | str (x : Str)
  | lst (ds : List D) | tup (ds : List D)
  | dct (ks : List Key) (ds : List D)
  | obj (c : Nat) (ns : List Str) (ds : List D)
  | cell (n : Nat) | slot (i : Nat) | scr (ns : List Int)
  | exn (a : Addr) (dd : Option Addr) (c : Nat) (ns : List Str) (ds : List D)
inductive Sl where
  | no | fz (d : D) | ow (d : D)
structure S where
  env : List Sl
  cs : List D
/-- an exception: its class, its fields -/
structure Xn where
  c : Nat
  ns : List Str
  ds : List D
structure Ctx where
  K : PySem.W.Frag
  cA : Nat → Addr
def Ex (F H : Hp) : Prop := ∀ a o, F a = some o → H a = some o
theorem Ex.refl (H : Hp) : Ex H H := fun _ _ h => h
theorem Ex.trans {H H1 H2 : Hp} (a : Ex H H1) (b : Ex H1 H2) : Ex H H2 := fun x o h => b x o (a x o h)
theorem Ex.new {H : Hp} {p : Addr} {o : HO} (h : H p = none) : Ex H (upd H p o) := fun a u e => by
  rw [upd_ne (ne_of_none e h)]
  exact e
theorem Ex.back {H H' : Hp} {p : Addr} (e : Ex H H') (h : H' p = none) : H p = none := by
  cases h1 : H p with
  | none => rfl
  | some o =>
    rw [e p o h1] at h
    cases h
mutual
def Rep (C : Ctx) (ρ : List Addr) (F : Hp) : D → V → Prop
  | .non, v => v = .non
  | .bl b, v => v = .bl b
  | .int i, v => v = .int i
  | .str x, v => v = .str x
  | .lst ds, v => ∃ a o, v = .ref a ∧ F a = some o ∧ ∃ vs, o = .lst vs ∧ RepL C ρ F ds vs
  | .tup ds, v => ∃ a o, v = .ref a ∧ F a = some o ∧ ∃ vs, o = .tup vs ∧ RepL C ρ F ds vs
  | .dct ks ds, v => ∃ a o, v = .ref a ∧ F a = some o ∧ ∃ kvs, o = .dK kvs ∧ kvs.map (·.1) = ks ∧ RepL C ρ F ds (kvs.map (·.2))
  | .obj c ns ds, v => ∃ a o, v = .ref a ∧ F a = some o ∧ ∃ dx fs, o = .ins (C.cA c) dx fs ∧ fs.map (·.1) = ns ∧ RepL C ρ F ds (fs.map (·.2))
  | .cell n, v => ∃ a, v = .ref a ∧ ρ[n]? = some a
  | .slot _, _ => False
  | .scr ns, v => ∃ a, v = .ref a ∧ SqL C.K F a (ns.map V.int)
  | .exn a dd _ ns ds, v => v = .ref a ∧ ((ns = [] ∧ dd = none) ∨ ∃ d, (ns ≠ [] ∧ dd = some d) ∧ ∃ fs, F d = some (.xd fs) ∧ fs.map (·.1) = ns ∧ RepL C ρ F ds (fs.map (·.2)))
def RepL (C : Ctx) (ρ : List Addr) (F : Hp) : List D → List V → Prop
  | [], vs => vs = []
  | d :: ds, vs => ∃ v r, vs = v :: r ∧ Rep C ρ F d v ∧ RepL C ρ F ds r
end
/-- how a container's content lies in an object -/
def ObjR (C : Ctx) (ρ : List Addr) (F : Hp) : D → HO → Prop
  | .lst ds, o => ∃ vs, o = .lst vs ∧ RepL C ρ F ds vs
  | .tup ds, o => ∃ vs, o = .tup vs ∧ RepL C ρ F ds vs
  | .dct ks ds, o => ∃ kvs, o = .dK kvs ∧ kvs.map (·.1) = ks ∧ RepL C ρ F ds (kvs.map (·.2))
  | .obj c ns ds, o => ∃ dx fs, o = .ins (C.cA c) dx fs ∧ fs.map (·.1) = ns ∧ RepL C ρ F ds (fs.map (·.2))
  | _, _ => False
def boxed : D → Bool
  | .lst _ => true | .tup _ => true | .dct _ _ => true | .obj _ _ _ => true | _ => false
theorem sqL_mono {K : PySem.W.Frag} {F F' : Hp} (hf : Ex F F') {a : Addr} {xs : List V} (h : SqL K F a xs) : SqL K F' a xs := by
  rcases h with (h | ⟨o, h⟩) | h
  · exact .inl (.inl (hf _ _ h))
  · exact .inl (.inr ⟨o, hf _ _ h⟩)
  · exact .inr h
theorem pre_get {α : Type} {ρ ρ' : List α} (hr : ρ <+: ρ') {n : Nat} {a : α} (h : ρ[n]? = some a) : ρ'[n]? = some a := by
  obtain ⟨t, rfl⟩ := hr
  rw [List.getElem?_append_left]
  · exact h
  · exact (List.getElem?_eq_some_iff.mp h).1
mutual
theorem Rep.mono {C : Ctx} {ρ ρ' : List Addr} {F F' : Hp} (hr : ρ <+: ρ') (hf : Ex F F') : ∀ {d : D} {v : V}, Rep C ρ F d v → Rep C ρ' F' d v
  | .non, _, h => h
  | .bl _, _, h => h
  | .int _, _, h => h
  | .str _, _, h => h
  | .lst ds, _, ⟨a, o, e, h, vs, e2, r⟩ => ⟨a, o, e, hf _ _ h, vs, e2, RepL.mono hr hf r⟩
  | .tup ds, _, ⟨a, o, e, h, vs, e2, r⟩ => ⟨a, o, e, hf _ _ h, vs, e2, RepL.mono hr hf r⟩
  | .dct ks ds, _, ⟨a, o, e, h, kvs, e2, k, r⟩ => ⟨a, o, e, hf _ _ h, kvs, e2, k, RepL.mono hr hf r⟩
  | .obj c ns ds, _, ⟨a, o, e, h, dx, fs, e2, k, r⟩ => ⟨a, o, e, hf _ _ h, dx, fs, e2, k, RepL.mono hr hf r⟩
  | .cell n, _, ⟨a, e, h⟩ => ⟨a, e, pre_get hr h⟩
  | .slot _, _, h => h
  | .scr ns, _, ⟨a, e, h⟩ => ⟨a, e, sqL_mono hf h⟩
  | .exn _ _ _ _ ds, _, ⟨e, .inl h⟩ => ⟨e, .inl h⟩
  | .exn _ _ _ _ ds, _, ⟨e, .inr ⟨d, e1, fs, h, k, r⟩⟩ => ⟨e, .inr ⟨d, e1, fs, hf _ _ h, k, RepL.mono hr hf r⟩⟩
theorem RepL.mono {C : Ctx} {ρ ρ' : List Addr} {F F' : Hp} (hr : ρ <+: ρ') (hf : Ex F F') : ∀ {ds : List D} {vs : List V}, RepL C ρ F ds vs → RepL C ρ' F' ds vs
  | [], _, h => h
  | _ :: _, _, ⟨v, r, e, h, t⟩ => ⟨v, r, e, h.mono hr hf, t.mono hr hf⟩
end
theorem ObjR.mono {C : Ctx} {ρ ρ' : List Addr} {F F' : Hp} (hr : ρ <+: ρ') (hf : Ex F F') {d : D} {o : HO} (h : ObjR C ρ F d o) : ObjR C ρ' F' d o := by
  cases d with
  | lst ds => obtain ⟨vs, e, r⟩ := h; exact ⟨vs, e, r.mono hr hf⟩
  | tup ds => obtain ⟨vs, e, r⟩ := h; exact ⟨vs, e, r.mono hr hf⟩
  | dct ks ds => obtain ⟨kvs, e, k, r⟩ := h; exact ⟨kvs, e, k, r.mono hr hf⟩
  | obj c ns ds => obtain ⟨dx, fs, e, k, r⟩ := h; exact ⟨dx, fs, e, k, r.mono hr hf⟩
  | _ => exact h
theorem rep_box {C : Ctx} {ρ : List Addr} {F : Hp} {d : D} {v : V} (b : boxed d = true) : Rep C ρ F d v ↔ ∃ a o, v = .ref a ∧ F a = some o ∧ ObjR C ρ F d o := by
  cases d <;> first | (cases b; done) | exact Iff.rfl
theorem objR_box {C : Ctx} {ρ : List Addr} {F : Hp} {d : D} {o : HO} (h : ObjR C ρ F d o) : boxed d = true := by
  cases d <;> first | rfl | exact h.elim
/-- a content that may be read now -/
def Vw (C : Ctx) (ρ : List Addr) (F H : Hp) (d : D) (v : V) : Prop :=
  if boxed d = true then ∃ a o, v = .ref a ∧ H a = some o ∧ ObjR C ρ F d o else Rep C ρ F d v
theorem Vw.box {C : Ctx} {ρ : List Addr} {F H : Hp} {d : D} {v : V} (b : boxed d = true) : Vw C ρ F H d v ↔ ∃ a o, v = .ref a ∧ H a = some o ∧ ObjR C ρ F d o := by
  unfold Vw; rw [if_pos b]
theorem Vw.flat {C : Ctx} {ρ : List Addr} {F H : Hp} {d : D} {v : V} (b : boxed d = false) : Vw C ρ F H d v ↔ Rep C ρ F d v := by
  unfold Vw; rw [if_neg (by rw [b]; exact Bool.false_ne_true)]
theorem Vw.of_rep {C : Ctx} {ρ : List Addr} {F H : Hp} {d : D} {v : V} (hf : Ex F H) (h : Rep C ρ F d v) : Vw C ρ F H d v := by
  cases b : boxed d with
  | true =>
    obtain ⟨a, o, e, h1, h2⟩ := (rep_box b).mp h
    exact (Vw.box b).mpr ⟨a, o, e, hf _ _ h1, h2⟩
  | false => exact (Vw.flat b).mpr h
/-- the slots at the entry of a def: the heaps, the cells, what of the entry's heap the def may change -/
structure Bs where
  H0 : Hp
  F0 : Hp
  ρ0 : List Addr
  ex : List Addr
structure Rel (C : Ctx) (B : Bs) (ρ : List Addr) (F : Hp) (σ : St) (H : Hp) (s : S) : Prop where
  sub : Ex F H
  len : σ.length = s.env.length
  fz : ∀ (i : Nat) (d : D), s.env[i]? = some (.fz d) → ∃ v, σ[i]? = some (some v) ∧ Rep C ρ F d v
  ow : ∀ (i : Nat) (d : D), s.env[i]? = some (.ow d) → ∃ a o, σ[i]? = some (some (.ref a)) ∧ F a = none ∧ (B.H0 a = none ∨ a ∈ B.ex) ∧ H a = some o ∧ ObjR C ρ F d o ∧ Mut (some o) ∧ a ∉ ρ ∧
    ∀ (j : Nat) (d' : D), j ≠ i → s.env[j]? = some (.ow d') → σ[j]? ≠ some (some (.ref a))
  cl : s.cs.length = ρ.length
  cr : ∀ (n : Nat) (d : D) (a : Addr), s.cs[n]? = some d → ρ[n]? = some a → ∃ o, F a = none ∧ H a = some o ∧ ObjR C ρ F d o ∧ Mut (some o)
  nd : ρ.Nodup
  pre : B.ρ0 <+: ρ
  new : ∀ (n : Nat) (a : Addr), B.ρ0.length ≤ n → ρ[n]? = some a → B.H0 a = none
  kept : ∀ a o, B.H0 a = some o → a ∉ B.ρ0 → a ∉ B.ex → H a = some o
  there : ∀ a o, B.H0 a = some o → ∃ o', H a = some o'
  f0 : Ex B.F0 F
  ff : ∀ a o, F a = some o → B.F0 a = some o ∨ B.H0 a = none
/-- what an expression's value is: a slot that owns, or data -/
def RepT (C : Ctx) (ρ : List Addr) (F : Hp) (σ : St) : D → V → Prop
  | .slot i, v => σ[i]? = some (some v)
  | d, v => Rep C ρ F d v
theorem RepT.mono {C : Ctx} {ρ ρ' : List Addr} {F F' : Hp} {σ : St} (hr : ρ <+: ρ') (hf : Ex F F') {d : D} {v : V} (h : RepT C ρ F σ d v) : RepT C ρ' F' σ d v := by
  cases d with
  | slot i => exact h
  | _ => exact Rep.mono hr hf h
theorem RepT.of {C : Ctx} {ρ : List Addr} {F : Hp} {σ : St} {d : D} {v : V} (h : Rep C ρ F d v) : RepT C ρ F σ d v := by
  cases d <;> first | exact h | exact (show False from h).elim
def isSlot : D → Bool
  | .slot _ => true
  | _ => false
theorem RepT.rep {C : Ctx} {ρ : List Addr} {F : Hp} {σ : St} {d : D} {v : V} (h : RepT C ρ F σ d v) (n : isSlot d = false) : Rep C ρ F d v := by
  cases d <;> first | exact h | cases n
/-- what stands in a place -/
def cont (s : S) : D → Option D
  | .slot i => match s.env[i]? with
    | some (.ow d) => some d
    | _ => none
  | .cell n => s.cs[n]?
  | d => some d
section
variable {C : Ctx} {B : Bs} {ρ : List Addr} {F : Hp} {σ : St} {H : Hp} {s : S}
theorem Rel.view (R : Rel C B ρ F σ H s) {d c : D} {v : V} (h : RepT C ρ F σ d v) (hc : cont s d = some c) : Vw C ρ F H c v := by
  cases d with
  | slot i =>
    have hc : (match s.env[i]? with | some (.ow d) => some d | _ => none) = some c := hc
    cases e : s.env[i]? with
    | none => rw [e] at hc; cases hc
    | some x =>
      rw [e] at hc
      cases x with
      | no => cases hc
      | fz d => cases hc
      | ow d =>
        cases hc
        obtain ⟨a, o, e1, _, _, e2, r, _⟩ := R.ow i _ e
        have e3 : σ[i]? = some (some v) := h
        rw [e1] at e3
        cases e3
        exact (Vw.box (objR_box r)).mpr ⟨a, o, rfl, e2, r⟩
  | cell n =>
    obtain ⟨a, rfl, ha⟩ := h
    obtain ⟨o, _, e2, r, _⟩ := R.cr n c a hc ha
    exact (Vw.box (objR_box r)).mpr ⟨a, o, rfl, e2, r⟩
  | _ => cases hc; exact Vw.of_rep R.sub h
theorem Rel.fresh (R : Rel C B ρ F σ H s) {p : Addr} (h : H p = none) : F p = none ∧ B.H0 p = none ∧ p ∉ ρ := by
  refine ⟨R.sub.back h, ?_, fun hp => ?_⟩
  · cases e : B.H0 p with
    | none => rfl
    | some o =>
      obtain ⟨o', e'⟩ := R.there p o e
      rw [h] at e'
      cases e'
  · obtain ⟨n, hn⟩ := List.getElem?_of_mem hp
    have hl : n < s.cs.length := by
      rw [R.cl]
      exact (List.getElem?_eq_some_iff.mp hn).1
    obtain ⟨o, _, e, _⟩ := R.cr n _ p (List.getElem?_eq_getElem hl) hn
    rw [h] at e
    cases e
/-- a new object that nobody changes -/
theorem Rel.lay (R : Rel C B ρ F σ H s) {p : Addr} {o : HO} (h : H p = none) : Rel C B ρ (upd F p o) σ (upd H p o) s := by
  obtain ⟨f, h0, hr⟩ := R.fresh h
  have xf : Ex F (upd F p o) := Ex.new f
  have xh : Ex H (upd H p o) := Ex.new h
  refine ⟨fun a u e => ?_, R.len, fun i d e => ?_, fun i d e => ?_, R.cl, fun n d a e1 e2 => ?_, R.nd, R.pre, R.new, fun a u e n1 n2 => xh _ _ (R.kept a u e n1 n2), fun a u e => ?_, R.f0.trans xf, fun a u e => ?_⟩
  · unfold upd at e ⊢
    by_cases ha : a = p
    · rw [if_pos ha] at e ⊢; exact e
    · rw [if_neg ha] at e ⊢; exact R.sub _ _ e
  · obtain ⟨v, e1, r⟩ := R.fz i d e
    exact ⟨v, e1, r.mono (List.prefix_refl _) xf⟩
  · obtain ⟨a, u, e1, e2, e3, e4, r, m, e5, e6⟩ := R.ow i d e
    have ne : a ≠ p := ne_of_none e4 h
    exact ⟨a, u, e1, by rw [upd_ne ne]; exact e2, e3, xh _ _ e4, r.mono (List.prefix_refl _) xf, m, e5, e6⟩
  · obtain ⟨u, e3, e4, r, m⟩ := R.cr n d a e1 e2
    have ne : a ≠ p := ne_of_none e4 h
    exact ⟨u, by rw [upd_ne ne]; exact e3, xh _ _ e4, r.mono (List.prefix_refl _) xf, m⟩
  · obtain ⟨o', e'⟩ := R.there a u e
    exact ⟨o', xh _ _ e'⟩
  · by_cases ha : a = p
    · subst ha; exact .inr h0
    · rw [upd_ne ha] at e; exact R.ff a u e
/-- the heaps grow by objects that nobody changes -/
inductive Grow : Hp → Hp → Hp → Hp → Prop where
  | refl {F H : Hp} : Grow F H F H
  | lay {F H F' H' : Hp} {p : Addr} {o : HO} : H p = none → Grow (upd F p o) (upd H p o) F' H' → Grow F H F' H'
theorem Grow.one {F H : Hp} {p : Addr} {o : HO} (h : H p = none) : Grow F H (upd F p o) (upd H p o) := .lay h .refl
theorem Rel.grow {F' H' : Hp} (g : Grow F H F' H') : Rel C B ρ F σ H s → Rel C B ρ F' σ H' s := by
  induction g with
  | refl => exact id
  | lay h _ ih => exact fun R => ih (R.lay h)
theorem Grow.exH {F H F' H' : Hp} (g : Grow F H F' H') : Ex H H' := by
  induction g with
  | refl => exact Ex.refl _
  | lay h _ ih => exact (Ex.new h).trans ih
theorem Grow.exF {F H F' H' : Hp} (g : Grow F H F' H') : Ex F H → Ex F F' := by
  induction g with
  | refl => exact fun _ => Ex.refl _
  | lay h _ ih =>
    intro x
    refine (Ex.new (x.back h)).trans (ih fun a u e => ?_)
    unfold upd at e ⊢
    split at e
    · next ha => rw [if_pos ha]; exact e
    · next ha => rw [if_neg ha]; exact x _ _ e
/-- a slot is given data -/
theorem Rel.setFz (R : Rel C B ρ F σ H s) {i : Nat} {d : D} {v : V} (r : Rep C ρ F d v) : Rel C B ρ F (σ.set i (some v)) H { s with env := s.env.set i (.fz d) } := by
  refine ⟨R.sub, by simp [R.len], fun j d' e => ?_, fun j d' e => ?_, R.cl, R.cr, R.nd, R.pre, R.new, R.kept, R.there, R.f0, R.ff⟩
  · by_cases h : i = j
    · subst h
      by_cases hl : i < s.env.length
      · rw [List.getElem?_set_self hl] at e
        cases e
        exact ⟨v, List.getElem?_set_self (by rw [R.len]; exact hl), r⟩
      · rw [List.getElem?_eq_none (by simpa using hl)] at e; cases e
    · rw [List.getElem?_set_ne h] at e ⊢
      exact R.fz j d' e
  · by_cases h : i = j
    · subst h
      by_cases hl : i < s.env.length
      · rw [List.getElem?_set_self hl] at e; cases e
      · rw [List.getElem?_eq_none (by simpa using hl)] at e; cases e
    · rw [List.getElem?_set_ne h] at e
      obtain ⟨a, u, e1, e2, e3, e4, r4, m, e5, e6⟩ := R.ow j d' e
      refine ⟨a, u, by rw [List.getElem?_set_ne h]; exact e1, e2, e3, e4, r4, m, e5, fun k d2 hk e7 => ?_⟩
      by_cases h2 : i = k
      · subst h2
        by_cases hl : i < s.env.length
        · rw [List.getElem?_set_self hl] at e7; cases e7
        · rw [List.getElem?_eq_none (by simpa using hl)] at e7; cases e7
      · rw [List.getElem?_set_ne h2] at e7 ⊢
        exact e6 k d2 hk e7
/-- a slot is given a new object that it owns -/
theorem Rel.setOw (R : Rel C B ρ F σ H s) {i : Nat} {d : D} {p : Addr} {o : HO} (h : H p = none) (r : ObjR C ρ F d o) (m : Mut (some o)) :
    Rel C B ρ F (σ.set i (some (.ref p))) (upd H p o) { s with env := s.env.set i (.ow d) } := by
  obtain ⟨f, h0, hr⟩ := R.fresh h
  have xh : Ex H (upd H p o) := Ex.new h
  refine ⟨R.sub.trans xh, by simp [R.len], fun j d' e => ?_, fun j d' e => ?_, R.cl, fun n d' a e1 e2 => ?_, R.nd, R.pre, R.new, fun a u e n1 n2 => xh _ _ (R.kept a u e n1 n2), fun a u e => ?_, R.f0, R.ff⟩
  · by_cases hij : i = j
    · subst hij
      by_cases hl : i < s.env.length
      · rw [List.getElem?_set_self hl] at e; cases e
      · rw [List.getElem?_eq_none (by simpa using hl)] at e; cases e
    · rw [List.getElem?_set_ne hij] at e ⊢
      exact R.fz j d' e
  · by_cases hij : i = j
    · subst hij
      by_cases hl : i < s.env.length
      · rw [List.getElem?_set_self hl] at e
        cases e
        refine ⟨p, o, List.getElem?_set_self (by rw [R.len]; exact hl), f, .inl h0, upd_same, r, m, hr, fun k d2 hk e7 => ?_⟩
        have h2 : i ≠ k := fun e => hk e.symm
        rw [List.getElem?_set_ne h2] at e7 ⊢
        obtain ⟨a, u, e1, _, _, e4, _⟩ := R.ow k d2 e7
        rw [e1]
        intro z
        cases z
        rw [h] at e4
        cases e4
      · rw [List.getElem?_eq_none (by simpa using hl)] at e; cases e
    · rw [List.getElem?_set_ne hij] at e
      obtain ⟨a, u, e1, e2, e3, e4, r4, m4, e5, e6⟩ := R.ow j d' e
      refine ⟨a, u, by rw [List.getElem?_set_ne hij]; exact e1, e2, e3, xh _ _ e4, r4, m4, e5, fun k d2 hk e7 => ?_⟩
      by_cases h2 : i = k
      · subst h2
        by_cases hl : i < s.env.length
        · rw [List.getElem?_set_self (by rw [R.len]; exact hl)]
          intro z
          cases z
          rw [h] at e4
          cases e4
        · rw [List.getElem?_eq_none (by simpa using hl)] at e7; cases e7
      · rw [List.getElem?_set_ne h2] at e7 ⊢
        exact e6 k d2 hk e7
  · obtain ⟨u, e3, e4, r4, m4⟩ := R.cr n d' a e1 e2
    exact ⟨u, e3, xh _ _ e4, r4, m4⟩
  · obtain ⟨o', e'⟩ := R.there a u e
    exact ⟨o', xh _ _ e'⟩
end
end ML
end
section
set_option Elab.async false
set_option linter.all false
set_option maxRecDepth 100000
set_option autoImplicit false
/-! ML2: more of the relation: a place's content changed, a new cell, a slot frozen. -/
namespace ML
open PySem PySem.Spec PyProof.Rows L2
section
variable {C : Ctx} {B : Bs} {ρ : List Addr} {F : Hp} {σ : St} {H : Hp} {s : S}
theorem set_some {α : Type} {l : List α} {i : Nat} {x y : α} {j : Nat} (h : (l.set i x)[j]? = some y) : (i = j ∧ x = y ∧ i < l.length) ∨ (i ≠ j ∧ l[j]? = some y) := by
  by_cases e : i = j
  · subst e
    by_cases hl : i < l.length
    · rw [List.getElem?_set_self hl] at h
      exact .inl ⟨rfl, Option.some.inj h, hl⟩
    · rw [List.getElem?_eq_none (by simpa using hl)] at h; cases h
  · rw [List.getElem?_set_ne e] at h
    exact .inr ⟨e, h⟩
theorem nodup_at {α : Type} : ∀ {l : List α}, l.Nodup → ∀ {i j : Nat} {a : α}, l[i]? = some a → l[j]? = some a → i = j
  | [], _, _, _, _, h, _ => by simp at h
  | x :: r, hn, 0, 0, _, _, _ => rfl
  | x :: r, hn, 0, j + 1, a, h, h' => by
    have e : x = a := by simpa using h
    have m : a ∈ r := List.mem_of_getElem? (by simpa using h')
    exact absurd m (by rw [← e]; exact (List.nodup_cons.mp hn).1)
  | x :: r, hn, i + 1, 0, a, h, h' => by
    have e : x = a := by simpa using h'
    have m : a ∈ r := List.mem_of_getElem? (by simpa using h)
    exact absurd m (by rw [← e]; exact (List.nodup_cons.mp hn).1)
  | x :: r, hn, i + 1, j + 1, a, h, h' => by
    have := nodup_at (List.nodup_cons.mp hn).2 (i := i) (j := j) (a := a) (by simpa using h) (by simpa using h')
    omega
/-- the content of a slot's own object is changed -/
theorem Rel.putSlot (R : Rel C B ρ F σ H s) {i : Nat} {d d' : D} {a : Addr} {o : HO} (hi : s.env[i]? = some (.ow d)) (ha : σ[i]? = some (some (.ref a))) (r : ObjR C ρ F d' o) (m : Mut (some o)) :
    Rel C B ρ F σ (upd H a o) { s with env := s.env.set i (.ow d') } := by
  obtain ⟨a', u, e1, fa, h0, e4, _, mu, hr, hd⟩ := R.ow i d hi
  rw [ha] at e1
  cases e1
  have oth : ∀ b, b ≠ a → upd H a o b = H b := fun b hb => upd_ne hb
  refine ⟨fun b x e => ?_, by simp [R.len], fun j d2 e => ?_, fun j d2 e => ?_, R.cl, fun n d2 b e1 e2 => ?_, R.nd, R.pre, R.new, fun b x e n1 n2 => ?_, fun b x e => ?_, R.f0, R.ff⟩
  · have hb : b ≠ a := fun z => by rw [z, fa] at e; cases e
    rw [oth b hb]
    exact R.sub _ _ e
  · rcases set_some e with ⟨_, z, _⟩ | ⟨_, e⟩
    · cases z
    · exact R.fz j d2 e
  · rcases set_some e with ⟨rfl, z, hl⟩ | ⟨hij, e⟩
    · cases z
      refine ⟨a, o, ha, fa, h0, upd_same, r, m, hr, fun k d3 hk e7 => ?_⟩
      rcases set_some e7 with ⟨z, _⟩ | ⟨_, e7⟩
      · exact absurd z.symm hk
      · exact hd k d3 hk e7
    · obtain ⟨b, x, f1, f2, f3, f4, f5, f6, f7, f8⟩ := R.ow j d2 e
      have hb : b ≠ a := fun z => by
        subst z
        exact hd j d2 (fun z => hij z.symm) e f1
      refine ⟨b, x, f1, f2, f3, by rw [oth b hb]; exact f4, f5, f6, f7, fun k d3 hk e7 => ?_⟩
      rcases set_some e7 with ⟨rfl, _, _⟩ | ⟨_, e7⟩
      · rw [ha]
        intro z
        cases z
        exact hb rfl
      · exact f8 k d3 hk e7
  · obtain ⟨x, f1, f2, f3, f4⟩ := R.cr n d2 b e1 e2
    have hb : b ≠ a := fun z => hr (by rw [← z]; exact List.mem_of_getElem? e2)
    exact ⟨x, f1, by rw [oth b hb]; exact f2, f3, f4⟩
  · have hb : b ≠ a := fun z => by
      subst z
      rcases h0 with h0 | h0
      · rw [h0] at e; cases e
      · exact n2 h0
    rw [oth b hb]
    exact R.kept b x e n1 n2
  · by_cases hb : b = a
    · subst hb; exact ⟨o, upd_same⟩
    · rw [oth b hb]; exact R.there b x e
/-- a cell's content is changed -/
theorem Rel.putCell (R : Rel C B ρ F σ H s) {n : Nat} {d d' : D} {a : Addr} {o : HO} (hn : s.cs[n]? = some d) (ha : ρ[n]? = some a) (r : ObjR C ρ F d' o) (m : Mut (some o)) :
    Rel C B ρ F σ (upd H a o) { s with cs := s.cs.set n d' } := by
  obtain ⟨u, fa, e4, _, mu⟩ := R.cr n d a hn ha
  have mem : a ∈ ρ := List.mem_of_getElem? ha
  have oth : ∀ b, b ≠ a → upd H a o b = H b := fun b hb => upd_ne hb
  refine ⟨fun b x e => ?_, R.len, R.fz, fun j d2 e => ?_, by simp [R.cl], fun k d2 b e1 e2 => ?_, R.nd, R.pre, R.new, fun b x e n1 n2 => ?_, fun b x e => ?_, R.f0, R.ff⟩
  · have hb : b ≠ a := fun z => by rw [z, fa] at e; cases e
    rw [oth b hb]
    exact R.sub _ _ e
  · obtain ⟨b, x, f1, f2, f3, f4, f5, f6, f7, f8⟩ := R.ow j d2 e
    have hb : b ≠ a := fun z => f7 (by rw [z]; exact mem)
    exact ⟨b, x, f1, f2, f3, by rw [oth b hb]; exact f4, f5, f6, f7, f8⟩
  · rcases set_some e1 with ⟨rfl, z, hl⟩ | ⟨hij, e1⟩
    · subst z
      rw [ha] at e2
      cases e2
      exact ⟨o, fa, upd_same, r, m⟩
    · obtain ⟨x, f1, f2, f3, f4⟩ := R.cr k d2 b e1 e2
      have hb : b ≠ a := fun z => by
        subst z
        exact hij (nodup_at R.nd ha e2)
      exact ⟨x, f1, by rw [oth b hb]; exact f2, f3, f4⟩
  · have hb : b ≠ a := fun z => by
      subst z
      by_cases hl : n < B.ρ0.length
      · obtain ⟨t, ht⟩ := R.pre
        rw [← ht, List.getElem?_append_left hl] at ha
        exact n1 (List.mem_of_getElem? ha)
      · rw [R.new n b (by omega) ha] at e
        cases e
    rw [oth b hb]
    exact R.kept b x e n1 n2
  · by_cases hb : b = a
    · subst hb; exact ⟨o, upd_same⟩
    · rw [oth b hb]; exact R.there b x e
/-- a new cell -/
theorem Rel.newCell (R : Rel C B ρ F σ H s) {d : D} {p : Addr} {o : HO} (h : H p = none) (r : ObjR C ρ F d o) (m : Mut (some o)) :
    Rel C B (ρ ++ [p]) F σ (upd H p o) { s with cs := s.cs ++ [d] } ∧ (ρ ++ [p])[s.cs.length]? = some p := by
  obtain ⟨f, h0, hr⟩ := R.fresh h
  have xh : Ex H (upd H p o) := Ex.new h
  have pr : ρ <+: ρ ++ [p] := List.prefix_append _ _
  have at_ : (ρ ++ [p])[s.cs.length]? = some p := by rw [R.cl]; simp
  refine ⟨⟨R.sub.trans xh, R.len, fun i d2 e => ?_, fun i d2 e => ?_, by simp [R.cl], fun n d2 a e1 e2 => ?_, ?_, R.pre.trans pr, fun n a l e => ?_, fun a u e n1 n2 => xh _ _ (R.kept a u e n1 n2), fun a u e => ?_, R.f0, R.ff⟩, at_⟩
  · obtain ⟨v, e1, r1⟩ := R.fz i d2 e
    exact ⟨v, e1, r1.mono pr (Ex.refl _)⟩
  · obtain ⟨a, u, e1, e2, e3, e4, r4, m4, e5, e6⟩ := R.ow i d2 e
    refine ⟨a, u, e1, e2, e3, xh _ _ e4, r4.mono pr (Ex.refl _), m4, fun z => ?_, e6⟩
    rcases List.mem_append.mp z with z | z
    · exact e5 z
    · exact ne_of_none e4 h (by simpa using z)
  · by_cases hl : n < s.cs.length
    · rw [List.getElem?_append_left hl] at e1
      rw [List.getElem?_append_left (by rw [← R.cl]; exact hl)] at e2
      obtain ⟨x, f1, f2, f3, f4⟩ := R.cr n d2 a e1 e2
      exact ⟨x, f1, xh _ _ f2, f3.mono pr (Ex.refl _), f4⟩
    · have hn : n = s.cs.length := by
        have := (List.getElem?_eq_some_iff.mp e1).1
        simp at this
        omega
      subst hn
      rw [at_] at e2
      cases e2
      rw [List.getElem?_append_right (Nat.le_refl _)] at e1
      simp at e1
      subst e1
      exact ⟨o, f, upd_same, r.mono pr (Ex.refl _), m⟩
  · rw [List.nodup_append]
    refine ⟨R.nd, by simp, fun a ha b hb => ?_⟩
    have : b = p := by simpa using hb
    subst this
    exact fun z => hr (by rw [← z]; exact ha)
  · by_cases hl : n < ρ.length
    · rw [List.getElem?_append_left hl] at e
      exact R.new n a l e
    · have := (List.getElem?_eq_some_iff.mp e).1
      simp at this
      have hn : n = ρ.length := by omega
      subst hn
      rw [List.getElem?_append_right (Nat.le_refl _)] at e
      simp at e
      subst e
      exact h0
  · obtain ⟨o', e'⟩ := R.there a u e
    exact ⟨o', xh _ _ e'⟩
/-- a slot's own object is changed no more -/
theorem Rel.frz (R : Rel C B ρ F σ H s) {i : Nat} {d : D} (hi : s.env[i]? = some (.ow d)) (hx : ∀ a, σ[i]? = some (some (.ref a)) → a ∉ B.ex) :
    ∃ F' a, Ex F F' ∧ Rel C B ρ F' σ H { s with env := s.env.set i (.fz d) } ∧ σ[i]? = some (some (.ref a)) ∧ Rep C ρ F' d (.ref a) ∧ ∀ b x, F' b = some x → F b = some x ∨ B.H0 b = none := by
  obtain ⟨a, o, e1, fa, h0, e4, r, mu, hr, hd⟩ := R.ow i d hi
  have h0 : B.H0 a = none := h0.resolve_right (hx a e1)
  have xf : Ex F (upd F a o) := Ex.new fa
  have rp : Rep C ρ (upd F a o) d (.ref a) := (rep_box (objR_box r)).mpr ⟨a, o, rfl, upd_same, r.mono (List.prefix_refl _) xf⟩
  refine ⟨upd F a o, a, xf, ?_, e1, rp, fun b x e => ?_⟩
  · refine ⟨fun b x e => ?_, by simp [R.len], fun j d2 e => ?_, fun j d2 e => ?_, R.cl, fun n d2 b f1 f2 => ?_, R.nd, R.pre, R.new, R.kept, R.there, R.f0.trans xf, fun b x e => ?_⟩
    · by_cases hb : b = a
      · subst hb; rw [upd_same] at e; cases e; exact e4
      · rw [upd_ne hb] at e; exact R.sub _ _ e
    · rcases set_some e with ⟨rfl, z, hl⟩ | ⟨hij, e⟩
      · cases z
        exact ⟨.ref a, e1, rp⟩
      · obtain ⟨v, f1, f2⟩ := R.fz j d2 e
        exact ⟨v, f1, f2.mono (List.prefix_refl _) xf⟩
    · rcases set_some e with ⟨rfl, z, hl⟩ | ⟨hij, e⟩
      · cases z
      · obtain ⟨b, x, f1, f2, f3, f4, f5, f6, f7, f8⟩ := R.ow j d2 e
        have hb : b ≠ a := fun z => by
          subst z
          exact hd j d2 (fun z => hij z.symm) e f1
        refine ⟨b, x, f1, by rw [upd_ne hb]; exact f2, f3, f4, f5.mono (List.prefix_refl _) xf, f6, f7, fun k d3 hk e7 => ?_⟩
        rcases set_some e7 with ⟨_, z, _⟩ | ⟨_, e7⟩
        · cases z
        · exact f8 k d3 hk e7
    · obtain ⟨x, g1, g2, g3, g4⟩ := R.cr n d2 b f1 f2
      have hb : b ≠ a := fun z => hr (by rw [← z]; exact List.mem_of_getElem? f2)
      exact ⟨x, by rw [upd_ne hb]; exact g1, g2, g3.mono (List.prefix_refl _) xf, g4⟩
    · by_cases hb : b = a
      · subst hb; exact .inr h0
      · rw [upd_ne hb] at e; exact R.ff _ _ e
  · by_cases hb : b = a
    · subst hb; exact .inr h0
    · rw [upd_ne hb] at e; exact .inl e
/-- slots are forgotten -/
theorem Rel.drop (R : Rel C B ρ F σ H s) {σ' : St} {env' : List Sl} (hl : σ'.length = env'.length)
    (h : ∀ (i : Nat) (x : Sl), env'[i]? = some x → x ≠ .no → s.env[i]? = some x ∧ σ'[i]? = σ[i]?) : Rel C B ρ F σ' H { s with env := env' } := by
  refine ⟨R.sub, hl, fun i d e => ?_, fun i d e => ?_, R.cl, R.cr, R.nd, R.pre, R.new, R.kept, R.there, R.f0, R.ff⟩
  · obtain ⟨h1, h2⟩ := h i _ e (by intro z; cases z)
    rw [h2]
    exact R.fz i d h1
  · obtain ⟨h1, h2⟩ := h i _ e (by intro z; cases z)
    obtain ⟨a, o, e1, e2, e3, e4, r, m, e5, e6⟩ := R.ow i d h1
    refine ⟨a, o, by rw [h2]; exact e1, e2, e3, e4, r, m, e5, fun j d' hj e7 => ?_⟩
    obtain ⟨g1, g2⟩ := h j _ e7 (by intro z; cases z)
    rw [g2]
    exact e6 j d' hj g1
end
end ML
end
section
set_option Elab.async false
set_option linter.all false
set_option maxRecDepth 100000
set_option autoImplicit false
/-! ML3: what an expression gives (RE), a test (RT), an argument list (RA); operators. -/
namespace ML
open PySem PySem.Spec PyProof.Rows L2
inductive R (α : Type) where
  | ok (a : α) (s : S)
  | exc (x : Xn) (s : S)
  | err
def R.bind {α β : Type} (r : R α) (f : α → S → R β) : R β := match r with
  | .ok a s => f a s
  | .exc x s => .exc x s
  | .err => .err
theorem R.bind_ok {α β : Type} {a : α} {s : S} {f : α → S → R β} : (R.ok a s).bind f = f a s := rfl
theorem R.bind_exc {α β : Type} {x : Xn} {s : S} {f : α → S → R β} : (R.exc x s : R α).bind f = .exc x s := rfl
theorem R.bind_err {α β : Type} {f : α → S → R β} : (R.err : R α).bind f = .err := rfl
abbrev ME := S → R D
abbrev MT := S → R Bool
abbrev MA := S → R (List D)
def XRep (C : Ctx) (ρ : List Addr) (F : Hp) (x : Xn) (cls : Value) (dd : Option Addr) : Prop :=
  cls = .ref (C.cA x.c) ∧ ((x.ns = [] ∧ dd = none) ∨ ∃ d fs, (x.ns ≠ [] ∧ dd = some d) ∧ F d = some (.xd fs) ∧ fs.map (·.1) = x.ns ∧ RepL C ρ F x.ds (fs.map (·.2)))
theorem XRep.mono {C : Ctx} {ρ ρ' : List Addr} {F F' : Hp} (hr : ρ <+: ρ') (hf : Ex F F') {x : Xn} {cls : Value} {dd : Option Addr} (h : XRep C ρ F x cls dd) : XRep C ρ' F' x cls dd := by
  obtain ⟨h1, h2⟩ := h
  refine ⟨h1, ?_⟩
  rcases h2 with h2 | ⟨d, fs, e1, e2, e3, r⟩
  · exact .inl h2
  · exact .inr ⟨d, fs, e1, hf _ _ e2, e3, r.mono hr hf⟩
def RepTL (C : Ctx) (ρ : List Addr) (F : Hp) (σ : St) : List D → List V → Prop
  | [], vs => vs = []
  | d :: ds, vs => ∃ v r, vs = v :: r ∧ RepT C ρ F σ d v ∧ RepTL C ρ F σ ds r
theorem RepTL.mono {C : Ctx} {ρ ρ' : List Addr} {F F' : Hp} {σ : St} (hr : ρ <+: ρ') (hf : Ex F F') : ∀ {ds : List D} {vs : List V}, RepTL C ρ F σ ds vs → RepTL C ρ' F' σ ds vs
  | [], _, h => h
  | _ :: _, _, ⟨v, r, e, h, t⟩ => ⟨v, r, e, h.mono hr hf, t.mono hr hf⟩
section
variable (C : Ctx) (B : Bs) (W : WX) (σ : St)
/-- what is wanted of an outcome -/
def Post {α β : Type} (rep : List Addr → Hp → Hp → S → α → β → Prop) (ρ : List Addr) (F : Hp) (r : R α) (Q : β → Hp → Prop) : Prop := match r with
  | .ok d s' => ∀ ρ' F' H' v, ρ <+: ρ' → Ex F F' → Rel C B ρ' F' σ H' s' → rep ρ' F' H' s' d v → Q v H'
  | .exc x s' => ∀ ρ' F' H' cls dd, ρ <+: ρ' → Ex F F' → Rel C B ρ' F' σ H' s' → XRep C ρ' F' x cls dd → W cls dd σ H'
  | .err => False
end
def repE (C : Ctx) (σ : St) : List Addr → Hp → Hp → S → D → V → Prop := fun ρ F _ _ d v => RepT C ρ F σ d v
def repT : List Addr → Hp → Hp → S → Bool → Bool → Prop := fun _ _ _ _ b b' => b' = b
def repA (C : Ctx) (σ : St) : List Addr → Hp → Hp → S → List D → List V → Prop := fun ρ F _ _ d v => RepTL C ρ F σ d v
def RE (C : Ctx) (X : Cx) (W : WX) (e : Expr) (m : ME) : Prop :=
  ∃ t : TE, PE X e t ∧ ∀ (B : Bs) (ρ : List Addr) (F : Hp) (σ : St) (H : Hp) (s : S) (Q : VK), Rel C B ρ F σ H s → Post C B W σ (repE C σ) ρ F (m s) Q → t σ H Q
def RT (C : Ctx) (X : Cx) (W : WX) (e : Expr) (m : MT) : Prop :=
  ∃ t : TT, PT X e t ∧ ∀ (B : Bs) (ρ : List Addr) (F : Hp) (σ : St) (H : Hp) (s : S) (Q : Bool → Hp → Prop), Rel C B ρ F σ H s → Post C B W σ repT ρ F (m s) Q → t σ H Q
def RA (C : Ctx) (X : Cx) (W : WX) (es : List Expr) (m : MA) : Prop :=
  ∃ t : TA, PA X es t ∧ ∀ (B : Bs) (ρ : List Addr) (F : Hp) (σ : St) (H : Hp) (s : S) (Q : List V → Hp → Prop), Rel C B ρ F σ H s → Post C B W σ (repA C σ) ρ F (m s) Q → t σ H Q
section
variable {C : Ctx} {B : Bs} {W : WX} {σ : St} {α β γ δ : Type} {rep : List Addr → Hp → Hp → S → α → β → Prop} {rep' : List Addr → Hp → Hp → S → γ → δ → Prop} {ρ ρ' : List Addr} {F F' : Hp}
theorem Post.weak {r : R α} {Q : β → Hp → Prop} (h : Post C B W σ rep ρ F r Q) (hr : ρ <+: ρ') (hf : Ex F F') : Post C B W σ rep ρ' F' r Q := by
  cases r with
  | ok d s => exact fun ρ2 F2 H2 v a b => h ρ2 F2 H2 v (hr.trans a) (hf.trans b)
  | exc x s => exact fun ρ2 F2 H2 v dd a b => h ρ2 F2 H2 v dd (hr.trans a) (hf.trans b)
  | err => exact h
/-- the first part of what is done in turn -/
theorem Post.bind {r : R α} {f : α → S → R γ} {Q : δ → Hp → Prop} {K : β → Hp → Prop} (h : Post C B W σ rep' ρ F (r.bind f) Q)
    (k : ∀ d s', r = .ok d s' → ∀ ρ' F' H' v, ρ <+: ρ' → Ex F F' → Rel C B ρ' F' σ H' s' → rep ρ' F' H' s' d v → Post C B W σ rep' ρ' F' (f d s') Q → K v H') : Post C B W σ rep ρ F r K := by
  cases r with
  | ok d s => exact fun ρ2 F2 H2 v a b R r => k d s rfl ρ2 F2 H2 v a b R r (Post.weak h a b)
  | exc x s => exact h
  | err => exact h
/-- an answer that is there at once -/
theorem Post.now {d : α} {s : S} {H : Hp} {v : β} {Q : β → Hp → Prop} (h : Post C B W σ rep ρ F (.ok d s) Q) (hr : ρ <+: ρ') (hf : Ex F F') (R : Rel C B ρ' F' σ H s) (r : rep ρ' F' H s d v) : Q v H := h ρ' F' H v hr hf R r
end
abbrev rfP (ρ : List Addr) : ρ <+: ρ := List.prefix_refl ρ
abbrev rfX (F : Hp) : Ex F F := Ex.refl F
section
variable {C : Ctx} {X : Cx} {W : WX} {pos : Pos}
/-! ### names, constants -/
def mVar (i : Nat) : ME := fun s => match s.env[i]? with
  | some (.fz d) => .ok d s
  | some (.ow _) => .ok (.slot i) s
  | _ => .err
theorem re_var (i : Nat) {x : Str} (hN : X.N[i]? = some x := by rfl) (hv : Vis X.env.scope x := by first | exact Or.inl rfl | exact Or.inr (Or.inl rfl) | exact Or.inr (Or.inr rfl)) (hd : (x == ("__debug__" : Str)) = false := by decide)
    (hcd : (x == ("__classdict__" : Str)) = false := by decide) : RE C X W (.Name x pos) (mVar i) := by
  refine ⟨_, pe_var hN hv hd hcd, fun B ρ F σ H s Q R h => ?_⟩
  unfold mVar at h
  split at h
  · next d e =>
    obtain ⟨v, e1, r⟩ := R.fz i d e
    exact ⟨v, e1, h.now (rfP ρ) (rfX F) R (RepT.of r)⟩
  · next d e =>
    obtain ⟨a, o, e1, _⟩ := R.ow i d e
    exact ⟨.ref a, e1, h.now (rfP ρ) (rfX F) R e1⟩
  · exact h.elim
def mC (d : D) : ME := fun s => .ok d s
/-- data that stand for one value alone -/
def flatD : D → Option V
  | .non => some .non
  | .bl b => some (.bl b)
  | .int i => some (.int i)
  | .str x => some (.str x)
  | _ => none
theorem flatD_rep {C : Ctx} {ρ : List Addr} {F : Hp} {d : D} {v : V} (h : flatD d = some v) : Rep C ρ F d v := by
  cases d <;> first | (cases h; exact rfl) | cases h
theorem re_c {e : Expr} {d : D} {v : V} (h : PE X e (tC v)) (hd : flatD d = some v) : RE C X W e (mC d) :=
  ⟨_, h, fun B ρ F σ H s Q R h => h.now (rfP ρ) (rfX F) R (RepT.of (flatD_rep hd))⟩
theorem re_int {i : Int} {j : Nat} : RE C X W (.Constant (.int i) j pos) (mC (.int i)) := re_c pe_int rfl
theorem re_str {x : Str} {j : Nat} : RE C X W (.Constant (.str x) j pos) (mC (.str x)) := re_c pe_str rfl
theorem re_bl {b : Bool} {j : Nat} : RE C X W (.Constant (.bool b) j pos) (mC (.bl b)) := re_c pe_bl rfl
theorem re_non {j : Nat} : RE C X W (.Constant .none j pos) (mC .non) := re_c pe_non rfl
/-- a module's constant -/
theorem re_glob {x : Str} {d : D} {v : V} {u : Value} (hg : Gl X x) (hm : X.mg x = some u) (r : RelV v u) (hd : flatD d = some v) (hb : (x == ("__debug__" : Str)) = false := by decide) : RE C X W (.Name x pos) (mC d) := re_c (pe_glob hg hm r hb) hd
/-! ### operators of two places -/
/-- a reading of a two-place operation does what f says of the contents -/
def SemB (C : Ctx) (r : R2) (f : D → D → Option D) : Prop :=
  ∀ (ρ : List Addr) (F H : Hp) (c1 c2 d : D) (x y : V) (Q : VK), Ex F H → Vw C ρ F H c1 x → Vw C ρ F H c2 y → f c1 c2 = some d → (∀ v F' H', Grow F H F' H' → Rep C ρ F' d v → Q v H') → r x y H Q
def orF (f g : D → D → Option D) : D → D → Option D := fun a b => match f a b with
  | some d => some d
  | none => g a b
theorem SemB.or {r r' : R2} {f g : D → D → Option D} (h : SemB C r f) (h' : SemB C r' g) : SemB C (fun x y H Q => r x y H Q ∨ r' x y H Q) (orF f g) := by
  intro ρ F H c1 c2 d x y Q xf v1 v2 e k
  unfold orF at e
  split at e
  · next d' e' => cases e; exact .inl (h ρ F H c1 c2 _ x y Q xf v1 v2 e' k)
  · next e' => exact .inr (h' ρ F H c1 c2 d x y Q xf v1 v2 e k)
def lift2 (f : D → D → Option D) (d1 d2 : D) (s : S) : R D := match cont s d1, cont s d2 with
  | some c1, some c2 => match f c1 c2 with
    | some d => .ok d s
    | none => .err
  | _, _ => .err
def mOp (f : D → D → Option D) (a b : ME) : ME := fun s => (a s).bind fun d1 s1 => (b s1).bind fun d2 s2 => lift2 f d1 d2 s2
theorem lift2_ok {f : D → D → Option D} {d1 d2 : D} {s : S} {B : Bs} {σ : St} {ρ : List Addr} {F H : Hp} {Q : VK} {x y : V} {r : R2} (hs : SemB C r f) (R : Rel C B ρ F σ H s) (r1 : RepT C ρ F σ d1 x) (r2 : RepT C ρ F σ d2 y)
    (h : Post C B W σ (repE C σ) ρ F (lift2 f d1 d2 s) Q) : r x y H Q := by
  unfold lift2 at h
  split at h
  · next c1 c2 e1 e2 =>
    split at h
    · next d e =>
      refine hs ρ F H c1 c2 d x y Q R.sub (R.view r1 e1) (R.view r2 e2) e fun v F' H' g rv => ?_
      exact h.now (rfP ρ) (g.exF R.sub) (R.grow g) (RepT.of rv)
    · exact h.elim
  · exact h.elim
theorem tOp_ok {ta tb : TE} {a b : ME} {f : D → D → Option D} {r : R2} (hs : SemB C r f)
    (ka : ∀ (B : Bs) (ρ : List Addr) (F : Hp) (σ : St) (H : Hp) (s : S) (Q : VK), Rel C B ρ F σ H s → Post C B W σ (repE C σ) ρ F (a s) Q → ta σ H Q)
    (kb : ∀ (B : Bs) (ρ : List Addr) (F : Hp) (σ : St) (H : Hp) (s : S) (Q : VK), Rel C B ρ F σ H s → Post C B W σ (repE C σ) ρ F (b s) Q → tb σ H Q)
    (B : Bs) (ρ : List Addr) (F : Hp) (σ : St) (H : Hp) (s : S) (Q : VK) (R : Rel C B ρ F σ H s) (h : Post C B W σ (repE C σ) ρ F (mOp f a b s) Q) : tOp r ta tb σ H Q := by
  refine ka B ρ F σ H s _ R (h.bind fun d1 s1 _ ρ1 F1 H1 x _ _ R1 r1 h1 => ?_)
  refine kb B ρ1 F1 σ H1 s1 _ R1 (h1.bind fun d2 s2 _ ρ2 F2 H2 y p2 x2 R2 r2 h2 => ?_)
  exact lift2_ok hs R2 (RepT.mono p2 x2 r1) r2 h2
theorem re_op {a b : Expr} {op : Operator} {r : R2} {f : D → D → Option D} {ma mb : ME} (ho : OpR X (binaryOp op) r) (hs : SemB C r f) (ha : RE C X W a ma) (hb : RE C X W b mb) : RE C X W (.BinOp a op b pos) (mOp f ma mb) := by
  obtain ⟨ta, pa, ka⟩ := ha
  obtain ⟨tb, pb, kb⟩ := hb
  exact ⟨_, pe_op ho pa pb, tOp_ok hs ka kb⟩
theorem re_cmp {a b : Expr} {op : CmpOp} {r : R2} {f : D → D → Option D} {ma mb : ME} (ho : OpR X (compareOp op) r) (hs : SemB C r f) (ha : RE C X W a ma) (hb : RE C X W b mb) (hm : behindInMarks op b = false) : RE C X W (.Compare a [op] [b] pos) (mOp f ma mb) := by
  obtain ⟨ta, pa, ka⟩ := ha
  obtain ⟨tb, pb, kb⟩ := hb
  exact ⟨_, pe_cmpR ho pa pb hm, tOp_ok hs ka kb⟩
theorem re_ix {a b : Expr} {r : R2} {f : D → D → Option D} {ma mb : ME} (ho : IxR X r) (hs : SemB C r f) (ha : RE C X W a ma) (hb : RE C X W b mb) (hi : PlainIx b) : RE C X W (.Subscript a b pos) (mOp f ma mb) := by
  obtain ⟨ta, pa, ka⟩ := ha
  obtain ⟨tb, pb, kb⟩ := hb
  exact ⟨_, pe_ix ho pa pb hi, tOp_ok hs ka kb⟩
/-! ### what operators do -/
def nowV {F H : Hp} {d : D} {v : V} {ρ : List Addr} {Q : VK} (k : ∀ v F' H', Grow F H F' H' → Rep C ρ F' d v → Q v H') (r : Rep C ρ F d v) : Q v H := k v F H .refl r
def addI : D → D → Option D
  | .int i, .int j => some (.int (i + j))
  | _, _ => none
def subI : D → D → Option D
  | .int i, .int j => some (.int (i - j))
  | _, _ => none
def ok62 (j : Int) : Prop := -(2 ^ 62) ≤ j ∧ j < 2 ^ 62
noncomputable instance (j : Int) : Decidable (ok62 j) := Classical.propDecidable _
def ok63 (j : Int) : Prop := 0 ≤ j ∧ j < 2 ^ 63
noncomputable instance (j : Int) : Decidable (ok63 j) := Classical.propDecidable _
def okMul (i j : Int) : Prop := (-(2 ^ 64) < i ∧ i < 2 ^ 64) ∨ (-(2 ^ 64) < j ∧ j < 2 ^ 64)
noncomputable instance (i j : Int) : Decidable (okMul i j) := Classical.propDecidable _
def okPow (i j : Int) : Prop := 0 ≤ j ∧ j ≤ 1000000 ∧ i.natAbs < 2 ^ 64
noncomputable instance (i j : Int) : Decidable (okPow i j) := Classical.propDecidable _
def okDiv (j : Int) : Prop := 0 < j ∧ j.natAbs.log2 < 9000
noncomputable instance (j : Int) : Decidable (okDiv j) := Classical.propDecidable _
noncomputable def mulI : D → D → Option D
  | .int i, .int j => if okMul i j then some (.int (i * j)) else none
  | _, _ => none
def mulWI : D → D → Option D
  | .int i, .int j => if i.natAbs.log2 + j.natAbs.log2 < 1000000 then some (.int (i * j)) else none
  | _, _ => none
noncomputable def fdivI : D → D → Option D
  | .int i, .int j => if okDiv j then some (.int (i / j)) else none
  | _, _ => none
def modI : D → D → Option D
  | .int i, .int j => if 0 < j then some (.int (i % j)) else none
  | _, _ => none
noncomputable def powI : D → D → Option D
  | .int i, .int j => if okPow i j then some (.int (i ^ j.toNat)) else none
  | _, _ => none
def addS : D → D → Option D
  | .str i, .str j => if i.length + j.length ≤ sizeLine then some (.str (i ++ j)) else none
  | _, _ => none
def addL : D → D → Option D
  | .lst i, .lst j => if i.length + j.length ≤ sizeLine then some (.lst (i ++ j)) else none
  | _, _ => none
theorem vw_int {ρ : List Addr} {F H : Hp} {i : Int} {x : V} (h : Vw C ρ F H (.int i) x) : x = .int i := (Vw.flat rfl).mp h
theorem vw_str {ρ : List Addr} {F H : Hp} {i : Str} {x : V} (h : Vw C ρ F H (.str i) x) : x = .str i := (Vw.flat rfl).mp h
theorem vw_bl {ρ : List Addr} {F H : Hp} {i : Bool} {x : V} (h : Vw C ρ F H (.bl i) x) : x = .bl i := (Vw.flat rfl).mp h
theorem vw_non {ρ : List Addr} {F H : Hp} {x : V} (h : Vw C ρ F H .non x) : x = .non := (Vw.flat rfl).mp h
theorem vw_lst {ρ : List Addr} {F H : Hp} {ds : List D} {x : V} (h : Vw C ρ F H (.lst ds) x) : ∃ a vs, x = .ref a ∧ H a = some (.lst vs) ∧ RepL C ρ F ds vs := by
  obtain ⟨a, o, e, h1, vs, rfl, r⟩ := (Vw.box rfl).mp h
  exact ⟨a, vs, e, h1, r⟩
theorem vw_tup {ρ : List Addr} {F H : Hp} {ds : List D} {x : V} (h : Vw C ρ F H (.tup ds) x) : ∃ a vs, x = .ref a ∧ H a = some (.tup vs) ∧ RepL C ρ F ds vs := by
  obtain ⟨a, o, e, h1, vs, rfl, r⟩ := (Vw.box rfl).mp h
  exact ⟨a, vs, e, h1, r⟩
theorem vw_dct {ρ : List Addr} {F H : Hp} {ks : List Key} {ds : List D} {x : V} (h : Vw C ρ F H (.dct ks ds) x) : ∃ a kvs, x = .ref a ∧ H a = some (.dK kvs) ∧ kvs.map (·.1) = ks ∧ RepL C ρ F ds (kvs.map (·.2)) := by
  obtain ⟨a, o, e, h1, vs, rfl, k, r⟩ := (Vw.box rfl).mp h
  exact ⟨a, vs, e, h1, k, r⟩
theorem vw_obj {ρ : List Addr} {F H : Hp} {c : Nat} {ns : List Str} {ds : List D} {x : V} (h : Vw C ρ F H (.obj c ns ds) x) : ∃ a dx fs, x = .ref a ∧ H a = some (.ins (C.cA c) dx fs) ∧ fs.map (·.1) = ns ∧ RepL C ρ F ds (fs.map (·.2)) := by
  obtain ⟨a, o, e, h1, dx, vs, rfl, k, r⟩ := (Vw.box rfl).mp h
  exact ⟨a, dx, vs, e, h1, k, r⟩
theorem vw_scr {ρ : List Addr} {F H : Hp} {ns : List Int} {x : V} (hx : Ex F H) (h : Vw C ρ F H (.scr ns) x) : ∃ a, x = .ref a ∧ SqL C.K H a (ns.map V.int) := by
  obtain ⟨a, e, h⟩ : ∃ a, x = V.ref a ∧ SqL C.K F a (ns.map V.int) := (Vw.flat rfl).mp h
  exact ⟨a, e, sqL_mono hx h⟩
theorem RepL.length {ρ : List Addr} {F : Hp} : ∀ {ds : List D} {vs : List V}, RepL C ρ F ds vs → vs.length = ds.length
  | [], _, h => by cases (show _ = [] from h); rfl
  | _ :: _, _, ⟨v, r, e, _, t⟩ => by subst e; simp [t.length]
theorem RepL.append {ρ : List Addr} {F : Hp} : ∀ {ds es : List D} {vs ws : List V}, RepL C ρ F ds vs → RepL C ρ F es ws → RepL C ρ F (ds ++ es) (vs ++ ws)
  | [], _, _, _, h, h' => by cases (show _ = [] from h); exact h'
  | _ :: _, _, _, _, ⟨v, r, e, h, t⟩, h' => by subst e; exact ⟨v, r ++ _, rfl, h, t.append h'⟩
theorem RepL.get {ρ : List Addr} {F : Hp} : ∀ {ds : List D} {vs : List V}, RepL C ρ F ds vs → ∀ {i : Nat} {d : D}, ds[i]? = some d → ∃ v, vs[i]? = some v ∧ Rep C ρ F d v
  | [], _, _, i, d, h => by simp at h
  | _ :: _, _, ⟨v, r, e, h, t⟩, 0, d, hi => by subst e; simp at hi; subst hi; exact ⟨v, rfl, h⟩
  | _ :: _, _, ⟨v, r, e, h, t⟩, i + 1, d, hi => by subst e; exact t.get (i := i) (by simpa using hi)
theorem RepL.nil {ρ : List Addr} {F : Hp} : RepL C ρ F [] [] := rfl
theorem RepL.one {ρ : List Addr} {F : Hp} {d : D} {v : V} (h : Rep C ρ F d v) : RepL C ρ F [d] [v] := ⟨v, [], rfl, h, rfl⟩
theorem rep_newL {ρ : List Addr} {F : Hp} {p : Addr} {ds : List D} {vs : List V} (h : F p = none) (r : RepL C ρ F ds vs) : Rep C ρ (upd F p (.lst vs)) (.lst ds) (.ref p) := ⟨p, _, rfl, upd_same, vs, rfl, r.mono (rfP ρ) (Ex.new h)⟩
theorem rep_newT {ρ : List Addr} {F : Hp} {p : Addr} {ds : List D} {vs : List V} (h : F p = none) (r : RepL C ρ F ds vs) : Rep C ρ (upd F p (.tup vs)) (.tup ds) (.ref p) := ⟨p, _, rfl, upd_same, vs, rfl, r.mono (rfP ρ) (Ex.new h)⟩
/-- numbers -/
theorem sem_I {P : Int → Int → Prop} [∀ i j, Decidable (P i j)] {g : Int → Int → Int} {f : D → D → Option D} (hf : ∀ a b d, f a b = some d → ∃ i j, a = .int i ∧ b = .int j ∧ P i j ∧ d = .int (g i j)) : SemB C (rI P fun i j => .int (g i j)) f := by
  intro ρ F H c1 c2 d x y Q xf v1 v2 e k
  obtain ⟨i, j, rfl, rfl, hp, rfl⟩ := hf _ _ _ e
  exact ⟨i, j, vw_int v1, vw_int v2, hp, nowV k rfl⟩
theorem sem_I0 {g : Int → Int → Int} {f : D → D → Option D} (hf : ∀ a b d, f a b = some d → ∃ i j, a = .int i ∧ b = .int j ∧ d = .int (g i j)) : SemB C (rI0 fun i j => .int (g i j)) f := by
  intro ρ F H c1 c2 d x y Q xf v1 v2 e k
  obtain ⟨i, j, rfl, rfl, rfl⟩ := hf _ _ _ e
  exact ⟨i, j, vw_int v1, vw_int v2, nowV k rfl⟩
theorem sem_addI : SemB C (rI0 fun i j => .int (i + j)) addI := sem_I0 fun a b d e => by
  unfold addI at e; split at e
  · cases e; exact ⟨_, _, rfl, rfl, rfl⟩
  · cases e
theorem sem_subI : SemB C (rI0 fun i j => .int (i - j)) subI := sem_I0 fun a b d e => by
  unfold subI at e; split at e
  · cases e; exact ⟨_, _, rfl, rfl, rfl⟩
  · cases e
theorem sem_mulI : SemB C (rI CMul fun i j => .int (i * j)) mulI := sem_I (P := fun i j => (-(2 ^ 64) < i ∧ i < 2 ^ 64) ∨ (-(2 ^ 64) < j ∧ j < 2 ^ 64)) fun a b d e => by
  unfold mulI at e; split at e
  · split at e
    · next h => cases e; exact ⟨_, _, rfl, rfl, h, rfl⟩
    · cases e
  · cases e
theorem sem_mulWI : SemB C (rI CMulW fun i j => .int (i * j)) mulWI := sem_I (P := fun i j => i.natAbs.log2 + j.natAbs.log2 < 1000000) fun a b d e => by
  unfold mulWI at e; split at e
  · split at e
    · next h => cases e; exact ⟨_, _, rfl, rfl, h, rfl⟩
    · cases e
  · cases e
theorem sem_fdivI : SemB C (rI CDivW fun i j => .int (i / j)) fdivI := sem_I (P := fun i j => 0 < j ∧ j.natAbs.log2 < 9000) fun a b d e => by
  unfold fdivI at e; split at e
  · split at e
    · next h => cases e; exact ⟨_, _, rfl, rfl, h, rfl⟩
    · cases e
  · cases e
theorem sem_modI : SemB C (rI (fun _ j => 0 < j) fun i j => .int (i % j)) modI := sem_I (P := fun _ j => 0 < j) fun a b d e => by
  unfold modI at e; split at e
  · split at e
    · next h => cases e; exact ⟨_, _, rfl, rfl, h, rfl⟩
    · cases e
  · cases e
theorem sem_powI : SemB C (rI CPow fun i j => .int (i ^ j.toNat)) powI := sem_I (P := fun i j => 0 ≤ j ∧ j ≤ 1000000 ∧ i.natAbs < 2 ^ 64) fun a b d e => by
  unfold powI at e; split at e
  · split at e
    · next h => cases e; exact ⟨_, _, rfl, rfl, h, rfl⟩
    · cases e
  · cases e
theorem sem_addS : SemB C (fun x y H Q => ∃ i j, x = .str i ∧ y = .str j ∧ i.length + j.length ≤ sizeLine ∧ Q (.str (i ++ j)) H) addS := by
  intro ρ F H c1 c2 d x y Q xf v1 v2 e k
  unfold addS at e; split at e
  · split at e
    · next h => cases e; exact ⟨_, _, vw_str v1, vw_str v2, h, nowV k rfl⟩
    · cases e
  · cases e
theorem sem_addL : SemB C rCat addL := by
  intro ρ F H c1 c2 d x y Q xf v1 v2 e k
  unfold addL at e; split at e
  · split at e
    · next h =>
      cases e
      obtain ⟨a, vs, e1, h1, r1⟩ := vw_lst v1
      obtain ⟨b, ws, e2, h2, r2⟩ := vw_lst v2
      refine ⟨a, b, vs, ws, e1, e2, h1, h2, by rw [r1.length, r2.length]; exact h, fun p hp => ?_⟩
      exact k _ _ _ (Grow.one hp) (rep_newL (xf.back hp) (r1.append r2))
    · cases e
  · cases e
def addD : D → D → Option D := orF addI (orF addS addL)
theorem op_addD : ∃ r, OpR X (binaryOp .Add) r ∧ SemB C r addD := ⟨_, op_add.or (op_add_str.or op_cat), sem_addI.or (sem_addS.or sem_addL)⟩
theorem re_add {a b : Expr} {ma mb : ME} (ha : RE C X W a ma) (hb : RE C X W b mb) : RE C X W (.BinOp a .Add b pos) (mOp addD ma mb) := let ⟨_, h1, h2⟩ := op_addD; re_op h1 h2 ha hb
theorem re_sub {a b : Expr} {ma mb : ME} (ha : RE C X W a ma) (hb : RE C X W b mb) : RE C X W (.BinOp a .Sub b pos) (mOp subI ma mb) := re_op op_sub sem_subI ha hb
theorem re_fdiv {a b : Expr} {ma mb : ME} (ha : RE C X W a ma) (hb : RE C X W b mb) : RE C X W (.BinOp a .FloorDiv b pos) (mOp fdivI ma mb) := re_op op_fdivW sem_fdivI ha hb
theorem re_mod {a b : Expr} {ma mb : ME} (ha : RE C X W a ma) (hb : RE C X W b mb) : RE C X W (.BinOp a .Mod b pos) (mOp modI ma mb) := re_op op_mod sem_modI ha hb
theorem re_pow {a b : Expr} {ma mb : ME} (ha : RE C X W a ma) (hb : RE C X W b mb) : RE C X W (.BinOp a .Pow b pos) (mOp powI ma mb) := re_op op_pow sem_powI ha hb
end
end ML
end
section
set_option Elab.async false
set_option linter.all false
set_option maxRecDepth 100000
set_option autoImplicit false
/-! ML4: comparisons, in, subscripts, slices, truth, not, and, or. -/
namespace ML
open PySem PySem.Spec PyProof.Rows L2
section
variable {C : Ctx} {X : Cx} {W : WX} {pos : Pos}
/-! ### == -/
/-- == of the scalars that compare by what they are -/
def scalD : D → D → Option Bool
  | .non, .non => some true
  | .int i, .int j => some (decide (i = j))
  | .bl i, .bl j => some (decide (i = j))
  | .str i, .str j => some (decide (i = j))
  | .non, .int _ => some false | .int _, .non => some false | .non, .bl _ => some false | .bl _, .non => some false | .non, .str _ => some false | .str _, .non => some false
  | .int _, .str _ => some false | .str _, .int _ => some false | .bl _, .str _ => some false | .str _, .bl _ => some false
  | _, _ => none
theorem scalD_ok {ρ : List Addr} {F H : Hp} {a b : D} {k : Bool} {x y : V} (e : scalD a b = some k) (v1 : Vw C ρ F H a x) (v2 : Vw C ρ F H b y) : scal x y = true ∧ decide (x = y) = k := by
  unfold scalD at e
  split at e <;> first
    | (cases e; done)
    | (cases e; first
        | (cases vw_non v1; cases vw_non v2; exact ⟨rfl, rfl⟩)
        | (cases vw_int v1; cases vw_int v2; exact ⟨rfl, decide_eq_decide.mpr ⟨fun z => V.int.inj z, fun z => congrArg _ z⟩⟩)
        | (cases vw_bl v1; cases vw_bl v2; exact ⟨rfl, decide_eq_decide.mpr ⟨fun z => V.bl.inj z, fun z => congrArg _ z⟩⟩)
        | (cases vw_str v1; cases vw_str v2; exact ⟨rfl, decide_eq_decide.mpr ⟨fun z => V.str.inj z, fun z => congrArg _ z⟩⟩)
        | (cases vw_non v1; cases vw_int v2; exact ⟨rfl, rfl⟩)
        | (cases vw_int v1; cases vw_non v2; exact ⟨rfl, rfl⟩)
        | (cases vw_non v1; cases vw_bl v2; exact ⟨rfl, rfl⟩)
        | (cases vw_bl v1; cases vw_non v2; exact ⟨rfl, rfl⟩)
        | (cases vw_non v1; cases vw_str v2; exact ⟨rfl, rfl⟩)
        | (cases vw_str v1; cases vw_non v2; exact ⟨rfl, rfl⟩)
        | (cases vw_int v1; cases vw_str v2; exact ⟨rfl, rfl⟩)
        | (cases vw_str v1; cases vw_int v2; exact ⟨rfl, rfl⟩)
        | (cases vw_bl v1; cases vw_str v2; exact ⟨rfl, rfl⟩)
        | (cases vw_str v1; cases vw_bl v2; exact ⟨rfl, rfl⟩))
mutual
/-- plain data -/
def toPy : D → Option PyData
  | .non => some .none
  | .bl b => some (.bool b)
  | .int i => some (.int i)
  | .str x => some (.str x)
  | .lst ds => match toPyL ds with
    | some ps => some (.list ps)
    | none => none
  | .tup ds => match toPyL ds with
    | some ps => some (.tuple ps)
    | none => none
  | _ => none
def toPyL : List D → Option (List PyData)
  | [] => some []
  | d :: ds => match toPy d, toPyL ds with
    | some p, some ps => some (p :: ps)
    | _, _ => none
end
mutual
theorem toPy_ok {ρ : List Addr} {F H : Hp} (hx : Ex F H) : ∀ {d : D} {v : V} {p : PyData}, Rep C ρ F d v → toPy d = some p → Dp C.K H v p
  | .non, _, _, h, e => by cases e; cases (show _ = V.non from h); exact .non
  | .bl b, _, _, h, e => by cases e; cases (show _ = V.bl b from h); exact .bl b
  | .int i, _, _, h, e => by cases e; cases (show _ = V.int i from h); exact .int i
  | .str x, _, _, h, e => by cases e; cases (show _ = V.str x from h); exact .str x
  | .lst ds, _, _, ⟨a, o, e1, h, vs, e2, r⟩, e => by
    subst e1 e2
    cases q : toPyL ds with
    | none => simp [toPy, q] at e
    | some ps =>
      simp [toPy, q] at e
      subst e
      exact .lst (SqL.of (hx _ _ h)) (toPyL_ok hx r q)
  | .tup ds, _, _, ⟨a, o, e1, h, vs, e2, r⟩, e => by
    subst e1 e2
    cases q : toPyL ds with
    | none => simp [toPy, q] at e
    | some ps =>
      simp [toPy, q] at e
      subst e
      exact .tup (SqT.of (hx _ _ h)) (toPyL_ok hx r q)
  | .dct _ _, _, _, _, e => by simp [toPy] at e
  | .obj _ _ _, _, _, _, e => by simp [toPy] at e
  | .cell _, _, _, _, e => by simp [toPy] at e
  | .slot _, _, _, _, e => by simp [toPy] at e
  | .scr _, _, _, _, e => by simp [toPy] at e
theorem toPyL_ok {ρ : List Addr} {F H : Hp} (hx : Ex F H) : ∀ {ds : List D} {vs : List V} {ps : List PyData}, RepL C ρ F ds vs → toPyL ds = some ps → DpAll C.K H vs ps
  | [], _, _, h, e => by cases e; cases (show _ = [] from h); exact .nil
  | d :: ds, _, _, ⟨v, r, e1, h, t⟩, e => by
    subst e1
    cases q : toPy d with
    | none => simp [toPyL, q] at e
    | some p =>
      cases q2 : toPyL ds with
      | none => simp [toPyL, q, q2] at e
      | some ps =>
        simp [toPyL, q, q2] at e
        subst e
        exact .cons (toPy_ok hx h q) (toPyL_ok hx t q2)
end
theorem toPy_vw {ρ : List Addr} {F H : Hp} (hx : Ex F H) {d : D} {v : V} {p : PyData} (h : Vw C ρ F H d v) (e : toPy d = some p) : Dp C.K H v p := by
  cases d with
  | lst ds =>
    obtain ⟨a, vs, rfl, h1, r⟩ := vw_lst h
    cases q : toPyL ds with
    | none => simp [toPy, q] at e
    | some ps =>
      simp [toPy, q] at e
      subst e
      exact .lst (SqL.of h1) (toPyL_ok hx r q)
  | tup ds =>
    obtain ⟨a, vs, rfl, h1, r⟩ := vw_tup h
    cases q : toPyL ds with
    | none => simp [toPy, q] at e
    | some ps =>
      simp [toPy, q] at e
      subst e
      exact .tup (SqT.of h1) (toPyL_ok hx r q)
  | dct _ _ => simp [toPy] at e
  | obj _ _ _ => simp [toPy] at e
  | cell _ => simp [toPy] at e
  | slot _ => simp [toPy] at e
  | scr _ => simp [toPy] at e
  | _ => exact toPy_ok hx ((Vw.flat rfl).mp h) e
def eqB (a b : D) : Option Bool := match scalD a b with
  | some k => some k
  | none => match toPy a, toPy b with
    | some p, some q => if SeqAt.shaped p && SeqAt.shaped q then some (PyData.eqv p q) else none
    | _, _ => none
def eqD (a b : D) : Option D := match eqB a b with
  | some k => some (.bl k)
  | none => none
def neD (a b : D) : Option D := match eqB a b with
  | some k => some (.bl (!k))
  | none => none
theorem op_eqX (hu : X.A.units + 64 < cLine) (hK : X.K = C.K) : ∃ r, OpR X (compareOp .Eq) r ∧ SemB C r eqD := by
  refine ⟨_, op_eq.or (op_eqD hu), fun ρ F H c1 c2 d x y Q xf v1 v2 e k => ?_⟩
  unfold eqD eqB at e
  cases q : scalD c1 c2 with
  | some b =>
    rw [q] at e
    cases e
    obtain ⟨h1, h2⟩ := scalD_ok q v1 v2
    exact .inl ⟨h1, by rw [h2]; exact nowV k rfl⟩
  | none =>
    rw [q] at e
    cases q1 : toPy c1 with
    | none => simp [q1] at e
    | some p1 =>
      cases q2 : toPy c2 with
      | none => simp [q1, q2] at e
      | some p2 =>
        simp only [q1, q2] at e
        split at e
        · next b hb =>
          split at hb
          · next hs =>
            cases hb
            cases e
            rw [Bool.and_eq_true] at hs
            exact .inr ⟨p1, p2, hK ▸ toPy_vw xf v1 q1, hK ▸ toPy_vw xf v2 q2, hs.1, hs.2, nowV k rfl⟩
          · cases hb
        · cases e
theorem op_neX (hu : X.A.units + 64 < cLine) (hK : X.K = C.K) : ∃ r, OpR X (compareOp .NotEq) r ∧ SemB C r neD := by
  refine ⟨_, op_ne.or (op_neD hu), fun ρ F H c1 c2 d x y Q xf v1 v2 e k => ?_⟩
  unfold neD eqB at e
  cases q : scalD c1 c2 with
  | some b =>
    rw [q] at e
    cases e
    obtain ⟨h1, h2⟩ := scalD_ok q v1 v2
    exact .inl ⟨h1, by rw [h2]; exact nowV k rfl⟩
  | none =>
    rw [q] at e
    cases q1 : toPy c1 with
    | none => simp [q1] at e
    | some p1 =>
      cases q2 : toPy c2 with
      | none => simp [q1, q2] at e
      | some p2 =>
        simp only [q1, q2] at e
        split at e
        · next b hb =>
          split at hb
          · next hs =>
            cases hb
            cases e
            rw [Bool.and_eq_true] at hs
            exact .inr ⟨p1, p2, hK ▸ toPy_vw xf v1 q1, hK ▸ toPy_vw xf v2 q2, hs.1, hs.2, nowV k rfl⟩
          · cases hb
        · cases e
/-! ### <, <=, >, >= -/
def ltD : D → D → Option D
  | .int i, .int j => some (.bl (decide (i < j)))
  | _, _ => none
def leI : D → D → Option D
  | .int i, .int j => some (.bl (decide (i ≤ j)))
  | _, _ => none
def gtD : D → D → Option D
  | .int i, .int j => some (.bl (decide (j < i)))
  | _, _ => none
def geD : D → D → Option D
  | .int i, .int j => some (.bl (decide (j ≤ i)))
  | _, _ => none
def leS : D → D → Option D
  | .str i, .str j => some (.bl (!decide (j.cps.toList < i.cps.toList)))
  | _, _ => none
def leD : D → D → Option D := orF leI leS
theorem sem_IB {g : Int → Int → Bool} {f : D → D → Option D} (hf : ∀ a b d, f a b = some d → ∃ i j, a = .int i ∧ b = .int j ∧ d = .bl (g i j)) : SemB C (rI0 fun i j => .bl (g i j)) f := by
  intro ρ F H c1 c2 d x y Q xf v1 v2 e k
  obtain ⟨i, j, rfl, rfl, rfl⟩ := hf _ _ _ e
  exact ⟨i, j, vw_int v1, vw_int v2, nowV k rfl⟩
theorem sem_lt : SemB C (rI0 fun i j => .bl (decide (i < j))) ltD := sem_IB fun a b d e => by
  unfold ltD at e; split at e
  · cases e; exact ⟨_, _, rfl, rfl, rfl⟩
  · cases e
theorem sem_leI : SemB C (rI0 fun i j => .bl (decide (i ≤ j))) leI := sem_IB fun a b d e => by
  unfold leI at e; split at e
  · cases e; exact ⟨_, _, rfl, rfl, rfl⟩
  · cases e
theorem sem_gt : SemB C (rI0 fun i j => .bl (decide (j < i))) gtD := sem_IB fun a b d e => by
  unfold gtD at e; split at e
  · cases e; exact ⟨_, _, rfl, rfl, rfl⟩
  · cases e
theorem sem_ge : SemB C (rI0 fun i j => .bl (decide (j ≤ i))) geD := sem_IB fun a b d e => by
  unfold geD at e; split at e
  · cases e; exact ⟨_, _, rfl, rfl, rfl⟩
  · cases e
theorem sem_leS : SemB C (fun x y H Q => ∃ i j, x = .str i ∧ y = .str j ∧ Q (.bl (!decide (j.cps.toList < i.cps.toList))) H) leS := by
  intro ρ F H c1 c2 d x y Q xf v1 v2 e k
  unfold leS at e; split at e
  · cases e; exact ⟨_, _, vw_str v1, vw_str v2, nowV k rfl⟩
  · cases e
theorem op_leX : ∃ r, OpR X (compareOp .LtE) r ∧ SemB C r leD := ⟨_, op_le.or op_le_str, sem_leI.or sem_leS⟩
/-! ### is None -/
def isN : D → D → Option D
  | a, .non => match flatD a with
    | some v => some (.bl (decide (v = .non)))
    | none => if boxed a then some (.bl false) else none
  | _, _ => none
def isntN : D → D → Option D
  | a, .non => match flatD a with
    | some v => some (.bl (!decide (v = .non)))
    | none => if boxed a then some (.bl true) else none
  | _, _ => none
theorem flatD_vw {ρ : List Addr} {F H : Hp} {d : D} {v x : V} (h : flatD d = some v) (w : Vw C ρ F H d x) : x = v := by
  cases d <;> first
    | (cases h; first | exact vw_non w | exact vw_bl w | exact vw_int w | exact vw_str w)
    | cases h
theorem boxed_ref {ρ : List Addr} {F H : Hp} {d : D} {x : V} (h : boxed d = true) (w : Vw C ρ F H d x) : ∃ a, x = .ref a := by
  obtain ⟨a, o, e, _⟩ := (Vw.box h).mp w
  exact ⟨a, e⟩
theorem sem_isN : SemB C (fun x y H Q => y = .non ∧ Q (.bl (decide (x = .non))) H) isN := by
  intro ρ F H c1 c2 d x y Q xf v1 v2 e k
  unfold isN at e
  split at e
  · split at e
    · next v hv =>
      cases e
      refine ⟨vw_non v2, ?_⟩
      rw [flatD_vw hv v1]
      exact nowV k rfl
    · split at e
      · next hb =>
        cases e
        refine ⟨vw_non v2, ?_⟩
        obtain ⟨a, rfl⟩ := boxed_ref hb v1
        exact nowV k rfl
      · cases e
  · cases e
theorem sem_isntN : SemB C (fun x y H Q => y = .non ∧ Q (.bl (!decide (x = .non))) H) isntN := by
  intro ρ F H c1 c2 d x y Q xf v1 v2 e k
  unfold isntN at e
  split at e
  · split at e
    · next v hv =>
      cases e
      refine ⟨vw_non v2, ?_⟩
      rw [flatD_vw hv v1]
      exact nowV k rfl
    · split at e
      · next hb =>
        cases e
        refine ⟨vw_non v2, ?_⟩
        obtain ⟨a, rfl⟩ := boxed_ref hb v1
        exact nowV k rfl
      · cases e
  · cases e
/-! ### in -/
def flatB (d : D) : Bool := (flatD d).isSome
def eqF : D → D → Bool
  | .non, .non => true
  | .bl a, .bl b => a == b
  | .bl a, .int b => (if a then 1 else 0) == b
  | .int a, .bl b => a == (if b then 1 else 0)
  | .int a, .int b => a == b
  | .str a, .str b => a == b
  | _, _ => false
def inF (x : D) (ds : List D) : Bool := ds.any fun y => eqF y x
theorem eqF_ok {x y : D} {u v : V} (hx : flatD x = some u) (hy : flatD y = some v) : eqV v u = eqF y x := by
  cases x <;> first | (cases hx; done) | (cases hx; cases y <;> first | (cases hy; done) | (cases hy; rfl))
theorem RepL.flat {ρ : List Addr} {F : Hp} {x : D} {u : V} (hx : flatD x = some u) : ∀ {ds : List D} {vs : List V}, RepL C ρ F ds vs → ds.all flatB = true → vs.all flatV = true ∧ inV u vs = inF x ds
  | [], _, h, _ => by cases (show _ = [] from h); exact ⟨rfl, rfl⟩
  | d :: ds, _, ⟨v, r, e, h, t⟩, f => by
    subst e
    rw [List.all_cons, Bool.and_eq_true] at f
    obtain ⟨h1, h2⟩ := t.flat hx f.2
    obtain ⟨w, hw⟩ := Option.isSome_iff_exists.mp f.1
    have ev : v = w := by
      cases d <;> first | (cases hw; exact h) | cases hw
    subst ev
    have fv : flatV v = true := by cases d <;> first | (cases hw; rfl) | cases hw
    refine ⟨by rw [List.all_cons, fv, h1]; rfl, ?_⟩
    show (eqV v u || inV u r) = (eqF d x || inF x ds)
    rw [eqF_ok hx hw, h2]
def inSq (neg : Bool) (a b : D) : Option D := match b with
  | .lst ds => if flatB a && ds.all flatB then some (.bl (if neg then !inF a ds else inF a ds)) else none
  | .tup ds => if flatB a && ds.all flatB then some (.bl (if neg then !inF a ds else inF a ds)) else none
  | _ => none
theorem flatV_of {d : D} {v : V} (h : flatD d = some v) : flatV v = true := by cases d <;> first | (cases h; rfl) | cases h
theorem sem_inSq {neg : Bool} (hK : X.K = C.K) : SemB C (rIn X.K neg) (inSq neg) := by
  intro ρ F H c1 c2 d x y Q xf v1 v2 e k
  unfold inSq at e
  split at e
  · next ds =>
    split at e
    · next hf =>
      cases e
      rw [Bool.and_eq_true] at hf
      obtain ⟨u, hu⟩ := Option.isSome_iff_exists.mp hf.1
      obtain ⟨a, vs, rfl, h1, r⟩ := vw_lst v2
      obtain ⟨g1, g2⟩ := r.flat hu hf.2
      cases flatD_vw hu v1
      exact ⟨a, vs, rfl, .inl (SqL.of h1), flatV_of hu, g1, by rw [g2]; exact nowV k rfl⟩
    · cases e
  · next ds =>
    split at e
    · next hf =>
      cases e
      rw [Bool.and_eq_true] at hf
      obtain ⟨u, hu⟩ := Option.isSome_iff_exists.mp hf.1
      obtain ⟨a, vs, rfl, h1, r⟩ := vw_tup v2
      obtain ⟨g1, g2⟩ := r.flat hu hf.2
      cases flatD_vw hu v1
      exact ⟨a, vs, rfl, .inr (SqT.of h1), flatV_of hu, g1, by rw [g2]; exact nowV k rfl⟩
    · cases e
  · cases e
/-- one sign in a text -/
def inSg (neg : Bool) (a b : D) : Option D := match a, b with
  | .str x, .str y => match x.cps.toList with
    | [c] => some (.bl (if neg then !decide (c ∈ y.cps.toList) else decide (c ∈ y.cps.toList)))
    | _ => none
  | _, _ => none
theorem str_one {x : Str} {c : Nat} (h : x.cps.toList = [c]) : x = ⟨#[c]⟩ := by
  cases x with
  | mk cps =>
    have : cps = #[c] := by
      apply Array.toList_inj.mp
      exact h
    rw [this]
theorem sem_inSg : SemB C (fun x y H Q => ∃ (c : Nat) (z : Str), x = .str ⟨#[c]⟩ ∧ y = .str z ∧ Q (.bl (decide (c ∈ z.cps.toList))) H) (inSg false) := by
  intro ρ F H c1 c2 d x y Q xf v1 v2 e k
  unfold inSg at e
  split at e
  · split at e
    · next c hc =>
      cases e
      exact ⟨c, _, by rw [← str_one hc]; exact vw_str v1, vw_str v2, nowV k rfl⟩
    · cases e
  · cases e
theorem sem_ninSg : SemB C (fun x y H Q => ∃ (c : Nat) (z : Str), x = .str ⟨#[c]⟩ ∧ y = .str z ∧ Q (.bl (!decide (c ∈ z.cps.toList))) H) (inSg true) := by
  intro ρ F H c1 c2 d x y Q xf v1 v2 e k
  unfold inSg at e
  split at e
  · split at e
    · next c hc =>
      cases e
      exact ⟨c, _, by rw [← str_one hc]; exact vw_str v1, vw_str v2, nowV k rfl⟩
    · cases e
  · cases e
/-- a key in a dict -/
def keyD : D → Option Key
  | .int i => some (.inl i)
  | .str x => some (.inr x)
  | _ => none
def lookK : List Key → List D → Key → Option D
  | k :: ks, d :: ds, j => if k = j then some d else lookK ks ds j
  | _, _, _ => none
theorem lookK_ok {ρ : List Addr} {F : Hp} : ∀ {kvs : List (Key × V)} {ds : List D}, RepL C ρ F ds (kvs.map (·.2)) → ∀ k : Key, (∀ d, lookK (kvs.map (·.1)) ds k = some d → ∃ v, valV kvs k = some v ∧ Rep C ρ F d v) ∧ (lookK (kvs.map (·.1)) ds k = none → valV kvs k = none)
  | [], [], _, k => ⟨fun d h => by simp [lookK] at h, fun _ => valV_nil⟩
  | [], _ :: _, ⟨v, r, e, _⟩, k => by simp at e
  | (j, w) :: kvs, [], h, k => by cases (show _ = [] from h)
  | (j, w) :: kvs, d :: ds, ⟨v, r, e, h, t⟩, k => by
    simp only [List.map_cons, List.cons.injEq] at e
    obtain ⟨e1, e2⟩ := e
    subst e1 e2
    by_cases hj : j = k
    · refine ⟨fun d' h' => ?_, fun h' => ?_⟩
      · simp only [List.map_cons, lookK, hj, if_true, Option.some.injEq] at h'
        subst h'
        exact ⟨w, valV_pos hj, h⟩
      · simp [lookK, hj] at h'
    · obtain ⟨g1, g2⟩ := lookK_ok t k
      rw [valV_neg (show ¬ (j, w).1 = k from hj)]
      refine ⟨fun d' h' => ?_, fun h' => ?_⟩
      · simp only [List.map_cons, lookK, if_neg hj] at h'
        exact g1 d' h'
      · simp only [List.map_cons, lookK, if_neg hj] at h'
        exact g2 h'
theorem keyD_vw {ρ : List Addr} {F H : Hp} {d : D} {k : Key} {x : V} (h : keyD d = some k) (w : Vw C ρ F H d x) : x = kV k := by
  cases d <;> first | (cases h; first | exact vw_int w | exact vw_str w) | cases h
def inDc (neg : Bool) (a b : D) : Option D := match b with
  | .dct ks ds => match keyD a with
    | some k => some (.bl (if neg then !(lookK ks ds k).isSome else (lookK ks ds k).isSome))
    | none => none
  | _ => none
def rDIn : R2 := fun y x H Q => ∃ a o, x = .ref a ∧ DGet H a y o ∧ Q (.bl o.isSome) H
def rDNotIn : R2 := fun y x H Q => ∃ a o, x = .ref a ∧ DGet H a y o ∧ Q (.bl (!o.isSome)) H
theorem op_din (hu : X.A.units + 1 < cLine) : OpR X (compareOp .In) rDIn := by
  intro pins s σ H y x u v Q I ry rx h
  obtain ⟨a, o, rfl, g, q⟩ := h
  cases rx
  exact d_in hu I g ry fun s' I' => ⟨.bl o.isSome, H, I', rfl, q⟩
theorem op_dnotin (hu : X.A.units + 1 < cLine) : OpR X (compareOp .NotIn) rDNotIn := by
  intro pins s σ H y x u v Q I ry rx h
  obtain ⟨a, o, rfl, g, q⟩ := h
  cases rx
  exact d_notIn hu I g ry fun s' I' => ⟨.bl (!o.isSome), H, I', rfl, q⟩
theorem look_isSome {ρ : List Addr} {F : Hp} {kvs : List (Key × V)} {ds : List D} (r : RepL C ρ F ds (kvs.map (·.2))) (k : Key) : (valV kvs k).isSome = (lookK (kvs.map (·.1)) ds k).isSome := by
  obtain ⟨g1, g2⟩ := lookK_ok r k
  cases q : lookK (kvs.map (·.1)) ds k with
  | none => rw [g2 q]; rfl
  | some d => obtain ⟨v, e, _⟩ := g1 d q; rw [e]; rfl
theorem sem_inDc : SemB C rDIn (inDc false) := by
  intro ρ F H c1 c2 d x y Q xf v1 v2 e k
  unfold inDc at e
  split at e
  · next ks ds =>
    split at e
    · next j hj =>
      cases e
      obtain ⟨a, kvs, rfl, h1, rfl, r⟩ := vw_dct v2
      cases keyD_vw hj v1
      exact ⟨a, _, rfl, DGet.k (k := j) h1, by rw [look_isSome r]; exact nowV k rfl⟩
    · cases e
  · cases e
theorem sem_ninDc : SemB C rDNotIn (inDc true) := by
  intro ρ F H c1 c2 d x y Q xf v1 v2 e k
  unfold inDc at e
  split at e
  · next ks ds =>
    split at e
    · next j hj =>
      cases e
      obtain ⟨a, kvs, rfl, h1, rfl, r⟩ := vw_dct v2
      cases keyD_vw hj v1
      exact ⟨a, _, rfl, DGet.k (k := j) h1, by rw [look_isSome r]; exact nowV k rfl⟩
    · cases e
  · cases e
def inD (neg : Bool) : D → D → Option D := orF (inSg neg) (orF (inSq neg) (inDc neg))
theorem op_inX (hu : X.A.units + 1 < cLine) (hK : X.K = C.K) : ∃ r, OpR X (compareOp .In) r ∧ SemB C r (inD false) := ⟨_, op_in_sign.or (op_in_seq.or (op_din hu)), sem_inSg.or ((sem_inSq hK).or sem_inDc)⟩
theorem op_ninX (hu : X.A.units + 1 < cLine) (hK : X.K = C.K) : ∃ r, OpR X (compareOp .NotIn) r ∧ SemB C r (inD true) := ⟨_, op_notIn_sign.or (op_notIn_seq.or (op_dnotin hu)), sem_ninSg.or ((sem_inSq hK).or sem_ninDc)⟩
/-! ### subscripts -/
def ixSq : D → D → Option D
  | .lst ds, .int i => atI ds i
  | .tup ds, .int i => atI ds i
  | .scr ns, .int i => match atI ns i with
    | some n => some (.int n)
    | none => none
  | .str z, .int i => if z.length ≤ sizeLine then match atI z.cps.toList i with
    | some c => some (.str ⟨#[c]⟩)
    | none => none
    else none
  | _, _ => none
theorem RepL.atI {ρ : List Addr} {F : Hp} {ds : List D} {vs : List V} (r : RepL C ρ F ds vs) {i : Int} {d : D} (h : atI ds i = some d) : ∃ v, L2.atI vs i = some v ∧ Rep C ρ F d v := by
  unfold L2.atI at h ⊢
  rw [r.length]
  cases e : ixN ds.length i with
  | none => rw [e] at h; cases h
  | some j =>
    rw [e] at h
    exact r.get h
theorem atI_map {α β : Type} (f : α → β) (xs : List α) (i : Int) : atI (xs.map f) i = (atI xs i).map f := by
  unfold atI
  rw [List.length_map]
  cases ixN xs.length i with
  | none => rfl
  | some j => simp
theorem sem_ixSq (hK : X.K = C.K) : SemB C (rIx X.K) ixSq := by
  intro ρ F H c1 c2 d x y Q xf v1 v2 e k
  unfold ixSq at e
  split at e
  · obtain ⟨a, vs, rfl, h1, r⟩ := vw_lst v1
    obtain ⟨v, ev, rv⟩ := r.atI e
    exact .inl ⟨a, vs, _, v, rfl, vw_int v2, SqL.of h1, ev, nowV k rv⟩
  · obtain ⟨a, vs, rfl, h1, r⟩ := vw_tup v1
    obtain ⟨v, ev, rv⟩ := r.atI e
    exact .inr (.inl ⟨a, vs, _, v, rfl, vw_int v2, SqT.of h1, ev, nowV k rv⟩)
  · next ns i =>
    split at e
    · next n hn =>
      cases e
      obtain ⟨a, rfl, h1⟩ := vw_scr xf v1
      refine .inl ⟨a, _, _, .int n, rfl, vw_int v2, hK ▸ h1, ?_, nowV k rfl⟩
      rw [atI_map, hn]
      rfl
    · cases e
  · split at e
    · next hz =>
      split at e
      · next c hc =>
        cases e
        exact .inr (.inr ⟨_, _, c, vw_str v1, vw_int v2, hz, hc, nowV k rfl⟩)
      · cases e
    · cases e
  · cases e
def ixDc : D → D → Option D
  | .dct ks ds, a => match keyD a with
    | some k => lookK ks ds k
    | none => none
  | _, _ => none
def rDGet : R2 := fun x y H Q => ∃ a v, x = .ref a ∧ DGet H a y (some v) ∧ Q v H
theorem ix_dict (hu : X.A.units + 1 < cLine) : IxR X rDGet := by
  intro value slice pins s σ H x y v u Q I rx ry h hs
  obtain ⟨a, z, rfl, g, q⟩ := h
  cases rx
  have hT : s.TypeIs (.ref a) "dict" := dict_typeIs I g
  have h2 := d_getItem (Q := fun w' s' => EP X pins σ Q w' s') (E := X.xe) (A := X.A) hu I g ry fun w' s' I' rv => ⟨z, H, I', rv, q⟩
  unfold subscriptTail
  refine wpAny_bind ?_
  rw [getitemInPython_of_ne hT.not_modules]
  refine wpAny_bind (wpAny_specialOf hT PySem.F.slot_dict_getitem.lookup ?_)
  have fin : wpAny (model X.prog X.w) X.A (subscripted slice false (.ref a) u) (fun r s₃ => wpAny (model X.prog X.w) X.A (letTemporaryGo value (.ref a) r >>= fun _ => pure r) (EP X pins σ Q) X.xe s₃) X.xe s := by
    rw [hs]
    exact wpAny_operating (wpAny_mono h2 (fun r s₃ h₃ => wpAny_bind (wpAny_letTemporaryGo (wpAny_pure h₃))) fun _ _ x => x)
  first
    | exact wpAny_pure (wpAny_bind fin)
    | exact wpAny_bind (wpAny_pure (wpAny_bind fin))
    | exact wpAny_bind fin
theorem sem_ixDc : SemB C rDGet ixDc := by
  intro ρ F H c1 c2 d x y Q xf v1 v2 e k
  unfold ixDc at e
  split at e
  · next ks ds a =>
    split at e
    · next j hj =>
      obtain ⟨b, kvs, rfl, h1, rfl, r⟩ := vw_dct v1
      cases keyD_vw hj v2
      obtain ⟨v, ev, rv⟩ := (lookK_ok r j).1 d e
      exact ⟨b, v, rfl, ev ▸ DGet.k (k := j) h1, nowV k rv⟩
    · cases e
  · cases e
def ixD : D → D → Option D := orF ixSq ixDc
theorem ix_X (hu : X.A.units + 1 < cLine) (hK : X.K = C.K) : ∃ r, IxR X r ∧ SemB C r ixD := ⟨_, ix_seq.or (ix_dict hu), (sem_ixSq hK).or sem_ixDc⟩
end
end ML
end
section
set_option Elab.async false
set_option linter.all false
set_option maxRecDepth 100000
set_option autoImplicit false
/-! ML5: new objects that nobody holds yet (Loose): frozen, owned by a slot, or a cell; another base of the relation. -/
namespace ML
open PySem PySem.Spec PyProof.Rows L2
section
variable {C : Ctx} {B : Bs} {ρ : List Addr} {F : Hp} {σ : St} {H : Hp} {s : S}
structure Loose (B : Bs) (ρ : List Addr) (F : Hp) (σ : St) (H : Hp) (s : S) (p : Addr) (o : HO) : Prop where
  f : F p = none
  h0 : B.H0 p = none
  h : H p = some o
  r : p ∉ ρ
  sl : ∀ (i : Nat) (d : D), s.env[i]? = some (.ow d) → σ[i]? ≠ some (some (.ref p))
theorem Rel.free (R : Rel C B ρ F σ H s) {p : Addr} {o : HO} (h : H p = none) : Rel C B ρ F σ (upd H p o) s ∧ Loose B ρ F σ (upd H p o) s p o := by
  obtain ⟨f, h0, hr⟩ := R.fresh h
  have xh : Ex H (upd H p o) := Ex.new h
  refine ⟨⟨R.sub.trans xh, R.len, R.fz, fun i d e => ?_, R.cl, fun n d a e1 e2 => ?_, R.nd, R.pre, R.new, fun a u e n1 n2 => xh _ _ (R.kept a u e n1 n2), fun a u e => ?_, R.f0, R.ff⟩, f, h0, upd_same, hr, fun i d e z => ?_⟩
  · obtain ⟨a, u, e1, e2, e3, e4, r, m, e5, e6⟩ := R.ow i d e
    exact ⟨a, u, e1, e2, e3, xh _ _ e4, r, m, e5, e6⟩
  · obtain ⟨u, e3, e4, r, m⟩ := R.cr n d a e1 e2
    exact ⟨u, e3, xh _ _ e4, r, m⟩
  · obtain ⟨o', e'⟩ := R.there a u e
    exact ⟨o', xh _ _ e'⟩
  · obtain ⟨a, u, e1, _, _, e4, _⟩ := R.ow i d e
    rw [e1] at z
    cases z
    rw [h] at e4
    cases e4
/-- a loose object, changed -/
theorem Rel.looseUpd (R : Rel C B ρ F σ H s) {p : Addr} {o u : HO} (l : Loose B ρ F σ H s p o) : Rel C B ρ F σ (upd H p u) s ∧ Loose B ρ F σ (upd H p u) s p u := by
  have oth : ∀ b, b ≠ p → upd H p u b = H b := fun b hb => upd_ne hb
  refine ⟨⟨fun a x e => ?_, R.len, R.fz, fun i d e => ?_, R.cl, fun n d a e1 e2 => ?_, R.nd, R.pre, R.new, fun a x e n1 n2 => ?_, fun a x e => ?_, R.f0, R.ff⟩, l.f, l.h0, upd_same, l.r, l.sl⟩
  · have hb : a ≠ p := fun z => by rw [z, l.f] at e; cases e
    rw [oth a hb]; exact R.sub _ _ e
  · obtain ⟨a, x, e1, e2, e3, e4, r, m, e5, e6⟩ := R.ow i d e
    have hb : a ≠ p := fun z => l.sl i d e (by rw [e1, z])
    exact ⟨a, x, e1, e2, e3, by rw [oth a hb]; exact e4, r, m, e5, e6⟩
  · obtain ⟨x, e3, e4, r, m⟩ := R.cr n d a e1 e2
    have hb : a ≠ p := fun z => l.r (by rw [← z]; exact List.mem_of_getElem? e2)
    exact ⟨x, e3, by rw [oth a hb]; exact e4, r, m⟩
  · have hb : a ≠ p := fun z => by rw [z, l.h0] at e; cases e
    rw [oth a hb]; exact R.kept a x e n1 n2
  · have hb : a ≠ p := fun z => by rw [z, l.h0] at e; cases e
    rw [oth a hb]; exact R.there a x e
/-- a loose object is frozen -/
theorem Rel.adoptFz (R : Rel C B ρ F σ H s) {p : Addr} {o : HO} (l : Loose B ρ F σ H s p o) : Rel C B ρ (upd F p o) σ H s ∧ Ex F (upd F p o) := by
  have xf : Ex F (upd F p o) := Ex.new l.f
  refine ⟨⟨fun a u e => ?_, R.len, fun i d e => ?_, fun i d e => ?_, R.cl, fun n d a e1 e2 => ?_, R.nd, R.pre, R.new, R.kept, R.there, R.f0.trans xf, fun a u e => ?_⟩, xf⟩
  · by_cases ha : a = p
    · subst ha; rw [upd_same] at e; cases e; exact l.h
    · rw [upd_ne ha] at e; exact R.sub _ _ e
  · obtain ⟨v, e1, r⟩ := R.fz i d e
    exact ⟨v, e1, r.mono (List.prefix_refl _) xf⟩
  · obtain ⟨a, u, e1, e2, e3, e4, r, m, e5, e6⟩ := R.ow i d e
    have ne : a ≠ p := fun z => l.sl i d e (by rw [e1, z])
    exact ⟨a, u, e1, by rw [upd_ne ne]; exact e2, e3, e4, r.mono (List.prefix_refl _) xf, m, e5, e6⟩
  · obtain ⟨u, e3, e4, r, m⟩ := R.cr n d a e1 e2
    have ne : a ≠ p := fun z => l.r (by rw [← z]; exact List.mem_of_getElem? e2)
    exact ⟨u, by rw [upd_ne ne]; exact e3, e4, r.mono (List.prefix_refl _) xf, m⟩
  · by_cases ha : a = p
    · subst ha; exact .inr l.h0
    · rw [upd_ne ha] at e; exact R.ff a u e
/-- a loose object is a slot's own -/
theorem Rel.adoptOw (R : Rel C B ρ F σ H s) {i : Nat} {d : D} {p : Addr} {o : HO} (l : Loose B ρ F σ H s p o) (r : ObjR C ρ F d o) (m : Mut (some o)) :
    Rel C B ρ F (σ.set i (some (.ref p))) H { s with env := s.env.set i (.ow d) } := by
  refine ⟨R.sub, by simp [R.len], fun j d' e => ?_, fun j d' e => ?_, R.cl, R.cr, R.nd, R.pre, R.new, R.kept, R.there, R.f0, R.ff⟩
  · rcases set_some e with ⟨_, z, _⟩ | ⟨hij, e⟩
    · cases z
    · rw [List.getElem?_set_ne hij]; exact R.fz j d' e
  · rcases set_some e with ⟨rfl, z, hl⟩ | ⟨hij, e⟩
    · cases z
      refine ⟨p, o, List.getElem?_set_self (by rw [R.len]; exact hl), l.f, .inl l.h0, l.h, r, m, l.r, fun k d2 hk e7 => ?_⟩
      have h2 : i ≠ k := fun e => hk e.symm
      rcases set_some e7 with ⟨z, _⟩ | ⟨_, e7⟩
      · exact absurd z h2
      · rw [List.getElem?_set_ne h2]; exact l.sl k d2 e7
    · obtain ⟨a, u, e1, e2, e3, e4, r4, m4, e5, e6⟩ := R.ow j d' e
      refine ⟨a, u, by rw [List.getElem?_set_ne hij]; exact e1, e2, e3, e4, r4, m4, e5, fun k d2 hk e7 => ?_⟩
      rcases set_some e7 with ⟨rfl, _, hl⟩ | ⟨h2, e7⟩
      · rw [List.getElem?_set_self (by rw [R.len]; exact hl)]
        intro z
        cases z
        exact l.sl j d' e e1
      · rw [List.getElem?_set_ne h2]; exact e6 k d2 hk e7
/-- a loose object is a new cell -/
theorem Rel.adoptCell (R : Rel C B ρ F σ H s) {d : D} {p : Addr} {o : HO} (l : Loose B ρ F σ H s p o) (r : ObjR C ρ F d o) (m : Mut (some o)) :
    Rel C B (ρ ++ [p]) F σ H { s with cs := s.cs ++ [d] } ∧ (ρ ++ [p])[s.cs.length]? = some p := by
  have pr : ρ <+: ρ ++ [p] := List.prefix_append _ _
  have at_ : (ρ ++ [p])[s.cs.length]? = some p := by rw [R.cl]; simp
  refine ⟨⟨R.sub, R.len, fun i d2 e => ?_, fun i d2 e => ?_, by simp [R.cl], fun n d2 a e1 e2 => ?_, ?_, R.pre.trans pr, fun n a hl e => ?_, R.kept, R.there, R.f0, R.ff⟩, at_⟩
  · obtain ⟨v, e1, r1⟩ := R.fz i d2 e
    exact ⟨v, e1, r1.mono pr (Ex.refl _)⟩
  · obtain ⟨a, u, e1, e2, e3, e4, r4, m4, e5, e6⟩ := R.ow i d2 e
    refine ⟨a, u, e1, e2, e3, e4, r4.mono pr (Ex.refl _), m4, fun z => ?_, e6⟩
    rcases List.mem_append.mp z with z | z
    · exact e5 z
    · have : a = p := by simpa using z
      exact l.sl i d2 e (by rw [e1, this])
  · by_cases hl : n < s.cs.length
    · rw [List.getElem?_append_left hl] at e1
      rw [List.getElem?_append_left (by rw [← R.cl]; exact hl)] at e2
      obtain ⟨x, f1, f2, f3, f4⟩ := R.cr n d2 a e1 e2
      exact ⟨x, f1, f2, f3.mono pr (Ex.refl _), f4⟩
    · have hn : n = s.cs.length := by
        have := (List.getElem?_eq_some_iff.mp e1).1
        simp at this
        omega
      subst hn
      rw [at_] at e2
      cases e2
      rw [List.getElem?_append_right (Nat.le_refl _)] at e1
      simp at e1
      subst e1
      exact ⟨o, l.f, l.h, r.mono pr (Ex.refl _), m⟩
  · rw [List.nodup_append]
    refine ⟨R.nd, by simp, fun a ha b hb => ?_⟩
    have : b = p := by simpa using hb
    subst this
    exact fun z => l.r (by rw [← z]; exact ha)
  · by_cases hl2 : n < ρ.length
    · rw [List.getElem?_append_left hl2] at e
      exact R.new n a hl e
    · have := (List.getElem?_eq_some_iff.mp e).1
      simp at this
      have hn : n = ρ.length := by omega
      subst hn
      rw [List.getElem?_append_right (Nat.le_refl _)] at e
      simp at e
      subst e
      exact l.h0
/-- the addresses that slots own -/
def owns (σ : St) (s : S) : List Addr := (List.range s.env.length).filterMap fun (i : Nat) => match s.env[i]?, σ[i]? with
  | some (.ow _), some (some (.ref a)) => some a
  | _, _ => none
theorem mem_owns {i : Nat} {d : D} {a : Addr} (h : s.env[i]? = some (.ow d)) (h' : σ[i]? = some (some (.ref a))) : a ∈ owns σ s := by
  refine List.mem_filterMap.mpr ⟨i, List.mem_range.mpr (List.getElem?_eq_some_iff.mp h).1, ?_⟩
  rw [h, h']
theorem of_owns {a : Addr} (h : a ∈ owns σ s) : ∃ (i : Nat) (d : D), s.env[i]? = some (.ow d) ∧ σ[i]? = some (some (.ref a)) := by
  obtain ⟨i, _, e⟩ := List.mem_filterMap.mp h
  split at e
  · next d b e1 e2 => cases e; exact ⟨i, d, e1, e2⟩
  · cases e
/-- the base of what is done from here on -/
def here (ρ : List Addr) (F : Hp) (σ : St) (H : Hp) (s : S) : Bs := ⟨H, F, ρ, owns σ s⟩
theorem Rel.here (R : Rel C B ρ F σ H s) : Rel C (here ρ F σ H s) ρ F σ H s := by
  refine ⟨R.sub, R.len, R.fz, fun i d e => ?_, R.cl, R.cr, R.nd, List.prefix_refl _, fun n a hl e => ?_, fun _ _ e _ _ => e, fun a o e => ⟨o, e⟩, Ex.refl _, fun _ _ e => .inl e⟩
  · obtain ⟨a, o, e1, e2, _, e4⟩ := R.ow i d e
    exact ⟨a, o, e1, e2, .inr (mem_owns e e1), e4⟩
  · have := (List.getElem?_eq_some_iff.mp e).1
    have hl2 : ρ.length ≤ n := hl
    omega
theorem Rel.back {ρ' : List Addr} {F' : Hp} {σ' : St} {H' : Hp} {s' : S} (R : Rel C B ρ F σ H s) (T : Rel C (ML.here ρ F σ H s) ρ' F' σ' H' s') : Rel C B ρ' F' σ' H' s' := by
  refine ⟨T.sub, T.len, T.fz, fun i d e => ?_, T.cl, T.cr, T.nd, R.pre.trans T.pre, fun n a hl e => ?_, fun a o e n1 n2 => ?_, fun a o e => ?_, R.f0.trans T.f0, fun a o e => ?_⟩
  · obtain ⟨a, o, e1, e2, e3, e4⟩ := T.ow i d e
    refine ⟨a, o, e1, e2, ?_, e4⟩
    rcases e3 with e3 | e3
    · exact .inl (R.fresh e3).2.1
    · obtain ⟨j, d2, g1, g2⟩ := of_owns e3
      obtain ⟨b, u, f1, _, f3, _⟩ := R.ow j d2 g1
      rw [g2] at f1
      cases f1
      exact f3
  · by_cases hl2 : n < ρ.length
    · obtain ⟨t, ht⟩ := T.pre
      have ht : ρ ++ t = ρ' := ht
      rw [← ht, List.getElem?_append_left hl2] at e
      exact R.new n a hl e
    · exact (R.fresh (T.new n a (by show ρ.length ≤ n; omega) e)).2.1
  · have h1 := R.kept a o e n1 n2
    refine T.kept a o h1 (fun z => ?_) fun z => ?_
    · obtain ⟨n, hn⟩ := List.getElem?_of_mem (show a ∈ ρ from z)
      by_cases hl : n < B.ρ0.length
      · obtain ⟨t, ht⟩ := R.pre
        rw [← ht, List.getElem?_append_left hl] at hn
        exact n1 (List.mem_of_getElem? hn)
      · rw [R.new n a (by omega) hn] at e; cases e
    · obtain ⟨j, d2, g1, g2⟩ := of_owns z
      obtain ⟨b, u, f1, _, f3, _⟩ := R.ow j d2 g1
      rw [g2] at f1
      cases f1
      rcases f3 with f3 | f3
      · rw [f3] at e; cases e
      · exact n2 f3
  · obtain ⟨o', e'⟩ := R.there a o e
    exact T.there a o' e'
  · rcases T.ff a o e with e | e
    · exact R.ff a o e
    · exact .inr (R.fresh e).2.1
/-- what is loose stays so while things are done from here on -/
theorem Loose.keep {ρ' : List Addr} {F' : Hp} {σ' : St} {H' : Hp} {s' : S} {p : Addr} {o : HO} (R : Rel C B ρ F σ H s) (l : Loose B ρ F σ H s p o) (T : Rel C (ML.here ρ F σ H s) ρ' F' σ' H' s') : Loose B ρ' F' σ' H' s' p o := by
  have hno : p ∉ owns σ s := fun z => by
    obtain ⟨j, d2, g1, g2⟩ := of_owns z
    exact l.sl j d2 g1 g2
  have hk : H' p = some o := T.kept p o l.h l.r hno
  refine ⟨?_, l.h0, hk, fun z => ?_, fun i d e z => ?_⟩
  · cases q : F' p with
    | none => rfl
    | some u =>
      rcases T.ff p u q with e | e
      · have := l.f
        rw [show F p = some u from e] at this
        cases this
      · have := l.h
        rw [show H p = none from e] at this
        cases this
  · obtain ⟨n, hn⟩ := List.getElem?_of_mem z
    by_cases hl : n < ρ.length
    · obtain ⟨t, ht⟩ := T.pre
      have ht : ρ ++ t = ρ' := ht
      rw [← ht, List.getElem?_append_left hl] at hn
      exact l.r (List.mem_of_getElem? hn)
    · have e := T.new n p (by show ρ.length ≤ n; omega) hn
      have := l.h
      rw [show H p = none from e] at this
      cases this
  · obtain ⟨a, u, e1, _, e3, _⟩ := T.ow i d e
    rw [z] at e1
    cases e1
    rcases e3 with e3 | e3
    · have := l.h
      rw [show H p = none from e3] at this
      cases this
    · exact hno e3
end
end ML
end
section
set_option Elab.async false
set_option linter.all false
set_option maxRecDepth 100000
set_option autoImplicit false
/-! ML6: new lists and dicts (RF), argument lists, displays, slices, calls of built-ins and of methods of texts. -/
namespace ML
open PySem PySem.Spec PyProof.Rows L2
def repF (C : Ctx) (B : Bs) (σ : St) : List Addr → Hp → Hp → S → D → V → Prop := fun ρ F H s d v => ∃ p o, v = .ref p ∧ Loose B ρ F σ H s p o ∧ ObjR C ρ F d o ∧ Mut (some o)
/-- an expression that makes a new list or dict -/
def RF (C : Ctx) (X : Cx) (W : WX) (e : Expr) (m : ME) : Prop :=
  ∃ t : TE, PE X e t ∧ ∀ (B : Bs) (ρ : List Addr) (F : Hp) (σ : St) (H : Hp) (s : S) (Q : VK), Rel C B ρ F σ H s → Post C B W σ (repF C B σ) ρ F (m s) Q → t σ H Q
section
variable {C : Ctx} {X : Cx} {W : WX} {pos : Pos} {B : Bs} {ρ : List Addr} {F : Hp} {σ : St} {H : Hp} {s : S}
theorem ObjR.rep {d : D} {o : HO} {p : Addr} (l : F p = none) (r : ObjR C ρ F d o) : Rep C ρ (upd F p o) d (.ref p) := (rep_box (objR_box r)).mpr ⟨p, o, rfl, upd_same, r.mono (rfP ρ) (Ex.new l)⟩
theorem RE.of {e : Expr} {m : ME} (h : RF C X W e m) : RE C X W e m := by
  obtain ⟨t, p, k⟩ := h
  refine ⟨t, p, fun B ρ F σ H s Q R h => k B ρ F σ H s Q R ?_⟩
  cases q : m s with
  | ok d s' =>
    rw [q] at h
    rintro ρ' F' H' v pr xf R' ⟨p, o, rfl, l, r, m⟩
    obtain ⟨R2, x2⟩ := R'.adoptFz l
    exact h ρ' _ H' _ pr (xf.trans x2) R2 (RepT.of (r.rep l.f))
  | exc x s' => rw [q] at h; exact h
  | err => rw [q] at h; exact h
/-! ### argument lists -/
def mNil : MA := fun s => .ok [] s
def mCons (a : ME) (r : MA) : MA := fun s => (a s).bind fun d s1 => (r s1).bind fun ds s2 => .ok (d :: ds) s2
theorem ra_nil : RA C X W [] mNil := ⟨_, pa_nil, fun B ρ F σ H s Q R h => h.now (rfP ρ) (rfX F) R rfl⟩
theorem ra_cons {e : Expr} {es : List Expr} {m : ME} {ms : MA} (ha : RE C X W e m) (hr : RA C X W es ms) (hs : starEach (e :: es) X.env = (false, eval e X.env) :: starEach es X.env := by rfl) : RA C X W (e :: es) (mCons m ms) := by
  obtain ⟨ta, pa, ka⟩ := ha
  obtain ⟨tr, pr, kr⟩ := hr
  refine ⟨_, pa_cons pa pr hs, fun B ρ F σ H s Q R h => ?_⟩
  refine ka B ρ F σ H s _ R (h.bind fun d s1 _ ρ1 F1 H1 v _ _ R1 r1 h1 => ?_)
  refine kr B ρ1 F1 σ H1 s1 _ R1 (h1.bind fun ds s2 _ ρ2 F2 H2 vs p2 x2 R2 r2 h2 => ?_)
  exact h2.now (rfP ρ2) (rfX F2) R2 ⟨v, vs, rfl, RepT.mono p2 x2 r1, r2⟩
/-- the values may be kept -/
def noSlots (ds : List D) : Bool := ds.all fun d => !isSlot d
theorem RepTL.rep : ∀ {ds : List D} {vs : List V}, RepTL C ρ F σ ds vs → noSlots ds = true → RepL C ρ F ds vs
  | [], _, h, _ => h
  | d :: ds, _, ⟨v, r, e, h, t⟩, n => by
    unfold noSlots at n
    rw [List.all_cons, Bool.and_eq_true] at n
    exact ⟨v, r, e, h.rep (by simpa using n.1), t.rep n.2⟩
def mDisp (g : List D → D) (ma : MA) : ME := fun s => (ma s).bind fun ds s' => if noSlots ds = true ∧ ds.length ≤ sizeLine then .ok (g ds) s' else .err
theorem RepTL.length : ∀ {ds : List D} {vs : List V}, RepTL C ρ F σ ds vs → vs.length = ds.length
  | [], _, h => by cases (show _ = [] from h); rfl
  | _ :: _, _, ⟨v, r, e, _, t⟩ => by subst e; simp [t.length]
theorem rf_lst {es : List Expr} {ma : MA} (ha : RA C X W es ma) : RF C X W (.List es pos) (mDisp .lst ma) := by
  obtain ⟨ta, pa, ka⟩ := ha
  refine ⟨_, pe_lst pa, fun B ρ F σ H s Q R h => ?_⟩
  refine ka B ρ F σ H s _ R (h.bind fun ds s1 _ ρ1 F1 H1 vs _ _ R1 r1 h1 => ?_)
  split at h1
  · next hc =>
    refine ⟨by rw [r1.length]; exact hc.2, fun p hp => ?_⟩
    obtain ⟨R2, l⟩ := R1.free (o := .lst vs) hp
    exact h1.now (rfP ρ1) (rfX F1) R2 ⟨p, _, rfl, l, ⟨vs, rfl, r1.rep hc.1⟩, trivial⟩
  · exact h1.elim
theorem re_tup {es : List Expr} {ma : MA} {k : Nat} (ha : RA C X W es ma) : RE C X W (.Tuple es k pos) (mDisp .tup ma) := by
  obtain ⟨ta, pa, ka⟩ := ha
  refine ⟨_, pe_tup pa, fun B ρ F σ H s Q R h => ?_⟩
  refine ka B ρ F σ H s _ R (h.bind fun ds s1 _ ρ1 F1 H1 vs _ _ R1 r1 h1 => ?_)
  split at h1
  · next hc =>
    refine ⟨by rw [r1.length]; exact hc.2, fun p hp => ?_⟩
    obtain ⟨f, _, _⟩ := R1.fresh hp
    exact h1.now (rfP ρ1) (Ex.new f) (R1.lay (o := .tup vs) hp) (RepT.of (rep_newT f (r1.rep hc.1)))
  · exact h1.elim
/-- {} -/
theorem rf_dct0 : RF C X W (.Dict [] [] pos) (mC (.dct [] [])) := by
  refine ⟨_, pe_dnewK, fun B ρ F σ H s Q R h => fun p hp => ?_⟩
  obtain ⟨R2, l⟩ := R.free (o := .dK []) hp
  exact h.now (rfP ρ) (rfX F) R2 ⟨p, _, rfl, l, ⟨[], rfl, rfl, rfl⟩, trivial⟩
/-! ### two places, a new list -/
def SemBF (C : Ctx) (r : R2) (f : D → D → Option D) : Prop :=
  ∀ (ρ : List Addr) (F H : Hp) (c1 c2 d : D) (x y : V) (Q : VK), Ex F H → Vw C ρ F H c1 x → Vw C ρ F H c2 y → f c1 c2 = some d → (∀ p o, H p = none → ObjR C ρ F d o → Mut (some o) → Q (.ref p) (upd H p o)) → r x y H Q
theorem tOp_okF {ta tb : TE} {a b : ME} {f : D → D → Option D} {r : R2} (hs : SemBF C r f)
    (ka : ∀ (B : Bs) (ρ : List Addr) (F : Hp) (σ : St) (H : Hp) (s : S) (Q : VK), Rel C B ρ F σ H s → Post C B W σ (repE C σ) ρ F (a s) Q → ta σ H Q)
    (kb : ∀ (B : Bs) (ρ : List Addr) (F : Hp) (σ : St) (H : Hp) (s : S) (Q : VK), Rel C B ρ F σ H s → Post C B W σ (repE C σ) ρ F (b s) Q → tb σ H Q)
    (B : Bs) (ρ : List Addr) (F : Hp) (σ : St) (H : Hp) (s : S) (Q : VK) (R : Rel C B ρ F σ H s) (h : Post C B W σ (repF C B σ) ρ F (mOp f a b s) Q) : tOp r ta tb σ H Q := by
  refine ka B ρ F σ H s _ R (h.bind fun d1 s1 _ ρ1 F1 H1 x _ _ R1 r1 h1 => ?_)
  refine kb B ρ1 F1 σ H1 s1 _ R1 (h1.bind fun d2 s2 _ ρ2 F2 H2 y p2 x2 R2 r2 h2 => ?_)
  unfold lift2 at h2
  split at h2
  · next c1 c2 e1 e2 =>
    split at h2
    · next d e =>
      refine hs ρ2 F2 H2 c1 c2 d x y Q R2.sub (R2.view (RepT.mono p2 x2 r1) e1) (R2.view r2 e2) e fun p o hp ro mo => ?_
      obtain ⟨R3, l⟩ := R2.free (o := o) hp
      exact h2.now (rfP ρ2) (rfX F2) R3 ⟨p, o, rfl, l, ro, mo⟩
    · exact h2.elim
  · exact h2.elim
theorem sem_addLF : SemBF C rCat addL := by
  intro ρ F H c1 c2 d x y Q xf v1 v2 e k
  unfold addL at e; split at e
  · split at e
    · next h =>
      cases e
      obtain ⟨a, vs, e1, h1, r1⟩ := vw_lst v1
      obtain ⟨b, ws, e2, h2, r2⟩ := vw_lst v2
      exact ⟨a, b, vs, ws, e1, e2, h1, h2, by rw [r1.length, r2.length]; exact h, fun p hp => k _ _ hp ⟨_, rfl, r1.append r2⟩ trivial⟩
    · cases e
  · cases e
theorem rf_add {a b : Expr} {ma mb : ME} (ha : RE C X W a ma) (hb : RE C X W b mb) : RF C X W (.BinOp a .Add b pos) (mOp addL ma mb) := by
  obtain ⟨ta, pa, ka⟩ := ha
  obtain ⟨tb, pb, kb⟩ := hb
  exact ⟨_, pe_op op_cat pa pb, tOp_okF sem_addLF ka kb⟩
/-- xs * n -/
def mulL : D → D → Option D
  | .lst ds, .int k => if -(2 ^ 63) ≤ k ∧ k < 2 ^ 63 ∧ ds.length * k.toNat ≤ sizeLine then some (.lst (List.replicate k.toNat ds).flatten) else none
  | _, _ => none
theorem RepL.rep {ds : List D} {vs : List V} (h : RepL C ρ F ds vs) : ∀ k : Nat, RepL C ρ F (List.replicate k ds).flatten (List.replicate k vs).flatten
  | 0 => rfl
  | k + 1 => by
    rw [List.replicate_succ, List.replicate_succ, List.flatten_cons, List.flatten_cons]
    exact h.append (h.rep k)
theorem sem_mulLF : SemBF C rRep mulL := by
  intro ρ F H c1 c2 d x y Q xf v1 v2 e k
  unfold mulL at e; split at e
  · split at e
    · next h =>
      cases e
      obtain ⟨a, vs, e1, h1, r1⟩ := vw_lst v1
      exact ⟨a, _, vs, e1, vw_int v2, h1, h.1, h.2.1, by rw [r1.length]; exact h.2.2, fun p hp => k _ _ hp ⟨_, rfl, r1.rep _⟩ trivial⟩
    · cases e
  · cases e
theorem SemBF.sem {r : R2} {f : D → D → Option D} (h : SemBF C r f) : SemB C r f := by
  intro ρ F H c1 c2 d x y Q xf v1 v2 e k
  exact h ρ F H c1 c2 d x y Q xf v1 v2 e fun p o hp ro _ => k _ _ _ (Grow.one hp) (ro.rep (xf.back hp))
/-- text * n -/
def mulS : D → D → Option D
  | .str x, .int k => if 0 ≤ k ∧ k ≤ 1 then some (.str (if k = 1 then x else ⟨#[]⟩)) else none
  | _, _ => none
noncomputable def mulD : D → D → Option D := orF mulI (orF mulWI mulL)
theorem op_mulX : ∃ r, OpR X (binaryOp .Mult) r ∧ SemB C r mulD := ⟨_, op_mul.or (op_mulW.or op_rep), sem_mulI.or (sem_mulWI.or sem_mulLF.sem)⟩
theorem re_mul {a b : Expr} {ma mb : ME} (ha : RE C X W a ma) (hb : RE C X W b mb) : RE C X W (.BinOp a .Mult b pos) (mOp mulD ma mb) := let ⟨_, h1, h2⟩ := op_mulX; re_op h1 h2 ha hb
/-! ### -x, not, and, or as values -/
def mNeg (a : ME) : ME := fun s => (a s).bind fun d s' => match d with
  | .int i => .ok (.int (-i)) s'
  | _ => .err
theorem re_neg {a : Expr} {ma : ME} (ha : RE C X W a ma) : RE C X W (.UnaryOp .USub a pos) (mNeg ma) := by
  obtain ⟨ta, pa, ka⟩ := ha
  refine ⟨_, pe_un un_neg pa, fun B ρ F σ H s Q R h => ka B ρ F σ H s _ R (h.bind fun d s1 _ ρ1 F1 H1 v _ _ R1 r1 h1 => ?_)⟩
  split at h1
  · exact ⟨_, r1, h1.now (rfP ρ1) (rfX F1) R1 rfl⟩
  · exact h1.elim
def mAndV (a b : ME) : ME := fun s => (a s).bind fun d s' => match d with
  | .bl true => b s'
  | .bl false => .ok (.bl false) s'
  | _ => .err
def mOrV (a b : ME) : ME := fun s => (a s).bind fun d s' => match d with
  | .bl true => .ok (.bl true) s'
  | .bl false => b s'
  | _ => .err
def mNotV (a : ME) : ME := fun s => (a s).bind fun d s' => match d with
  | .bl k => .ok (.bl (!k)) s'
  | _ => .err
theorem re_one {op : BoolOp} {a : Expr} {ma : ME} (ha : RE C X W a ma) : RE C X W (.BoolOp op [a] pos) ma := by
  obtain ⟨ta, pa, ka⟩ := ha
  exact ⟨_, pe_one pa, ka⟩
theorem re_and {a b : Expr} {r : List Expr} {ma mb : ME} (ha : RE C X W a ma) (hb : RE C X W (.BoolOp .And (b :: r) pos) mb) : RE C X W (.BoolOp .And (a :: b :: r) pos) (mAndV ma mb) := by
  obtain ⟨ta, pa, ka⟩ := ha
  obtain ⟨tb, pb, kb⟩ := hb
  refine ⟨_, pe_and pa pb, fun B ρ F σ H s Q R h => ka B ρ F σ H s _ R (h.bind fun d s1 _ ρ1 F1 H1 v _ _ R1 r1 h1 => ?_)⟩
  split at h1
  · exact ⟨true, r1, kb B ρ1 F1 σ H1 s1 Q R1 h1⟩
  · exact ⟨false, r1, by simpa using h1.now (rfP ρ1) (rfX F1) R1 rfl⟩
  · exact h1.elim
theorem re_or {a b : Expr} {r : List Expr} {ma mb : ME} (ha : RE C X W a ma) (hb : RE C X W (.BoolOp .Or (b :: r) pos) mb) : RE C X W (.BoolOp .Or (a :: b :: r) pos) (mOrV ma mb) := by
  obtain ⟨ta, pa, ka⟩ := ha
  obtain ⟨tb, pb, kb⟩ := hb
  refine ⟨_, pe_or pa pb, fun B ρ F σ H s Q R h => ka B ρ F σ H s _ R (h.bind fun d s1 _ ρ1 F1 H1 v _ _ R1 r1 h1 => ?_)⟩
  split at h1
  · exact ⟨true, r1, by simpa using h1.now (rfP ρ1) (rfX F1) R1 rfl⟩
  · exact ⟨false, r1, by simpa using kb B ρ1 F1 σ H1 s1 Q R1 h1⟩
  · exact h1.elim
theorem re_not {a : Expr} {ma : ME} (ha : RE C X W a ma) : RE C X W (.UnaryOp .Not a pos) (mNotV ma) := by
  obtain ⟨ta, pa, ka⟩ := ha
  refine ⟨_, pe_not pa, fun B ρ F σ H s Q R h => ka B ρ F σ H s _ R (h.bind fun d s1 _ ρ1 F1 H1 v _ _ R1 r1 h1 => ?_)⟩
  split at h1
  · exact ⟨_, r1, h1.now (rfP ρ1) (rfX F1) R1 rfl⟩
  · exact h1.elim
/-! ### tests -/
def mTest (a : ME) : MT := fun s => (a s).bind fun d s' => match d with
  | .bl k => .ok k s'
  | _ => .err
theorem rt_cmp {a b : Expr} {op : CmpOp} {r : R2} {f : D → D → Option D} {ma mb : ME} (ho : OpR X (compareOp op) r) (hs : SemB C r f) (ha : RE C X W a ma) (hb : RE C X W b mb) (hm : behindInMarks op b = false) : RT C X W (.Compare a [op] [b] pos) (mTest (mOp f ma mb)) := by
  obtain ⟨ta, pa, ka⟩ := ha
  obtain ⟨tb, pb, kb⟩ := hb
  refine ⟨_, pt_cmpR ho pa pb hm, fun B ρ F σ H s Q R h => ?_⟩
  refine tOp_ok hs ka kb B ρ F σ H s _ R (h.bind fun d s1 _ ρ1 F1 H1 v _ _ R1 r1 h1 => ?_)
  split at h1
  · exact ⟨_, r1, h1.now (rfP ρ1) (rfX F1) R1 rfl⟩
  · exact h1.elim
def mAnd (a b : MT) : MT := fun s => (a s).bind fun k s' => if k = true then b s' else .ok false s'
def mOr (a b : MT) : MT := fun s => (a s).bind fun k s' => if k = true then .ok true s' else b s'
def mNot (a : MT) : MT := fun s => (a s).bind fun k s' => .ok (!k) s'
/-- a chain of and | or -/
def RW' (C : Ctx) (X : Cx) (W : WX) (e : Expr) (m : MT) : Prop :=
  ∃ t : TT, PW X e t ∧ ∀ (B : Bs) (ρ : List Addr) (F : Hp) (σ : St) (H : Hp) (s : S) (Q : Bool → Hp → Prop), Rel C B ρ F σ H s → Post C B W σ repT ρ F (m s) Q → t σ H Q
theorem RT.of {e : Expr} {m : MT} (h : RW' C X W e m) : RT C X W e m := by
  obtain ⟨t, p, k⟩ := h
  exact ⟨t, p.pt, k⟩
theorem rw_and1 {a : Expr} {ma : MT} (ha : RT C X W a ma) : RW' C X W (.BoolOp .And [a] pos) ma := by
  obtain ⟨ta, pa, ka⟩ := ha
  exact ⟨_, pw_and1 pa, ka⟩
theorem rw_or1 {a : Expr} {ma : MT} (ha : RT C X W a ma) : RW' C X W (.BoolOp .Or [a] pos) ma := by
  obtain ⟨ta, pa, ka⟩ := ha
  exact ⟨_, pw_or1 pa, ka⟩
theorem rw_and {a b : Expr} {r : List Expr} {ma mb : MT} (ha : RT C X W a ma) (hb : RW' C X W (.BoolOp .And (b :: r) pos) mb) : RW' C X W (.BoolOp .And (a :: b :: r) pos) (mAnd ma mb) := by
  obtain ⟨ta, pa, ka⟩ := ha
  obtain ⟨tb, pb, kb⟩ := hb
  refine ⟨_, pw_and pa pb, fun B ρ F σ H s Q R h => ka B ρ F σ H s _ R (h.bind fun d s1 _ ρ1 F1 H1 v _ _ R1 r1 h1 => ?_)⟩
  cases (show v = d from r1)
  cases d with
  | true => exact kb B ρ1 F1 σ H1 s1 Q R1 h1
  | false => exact h1.now (rfP ρ1) (rfX F1) R1 rfl
theorem rw_or {a b : Expr} {r : List Expr} {ma mb : MT} (ha : RT C X W a ma) (hb : RW' C X W (.BoolOp .Or (b :: r) pos) mb) : RW' C X W (.BoolOp .Or (a :: b :: r) pos) (mOr ma mb) := by
  obtain ⟨ta, pa, ka⟩ := ha
  obtain ⟨tb, pb, kb⟩ := hb
  refine ⟨_, pw_or pa pb, fun B ρ F σ H s Q R h => ka B ρ F σ H s _ R (h.bind fun d s1 _ ρ1 F1 H1 v _ _ R1 r1 h1 => ?_)⟩
  cases (show v = d from r1)
  cases d with
  | true => exact h1.now (rfP ρ1) (rfX F1) R1 rfl
  | false => exact kb B ρ1 F1 σ H1 s1 Q R1 h1
theorem rt_not {a : Expr} {ma : MT} (ha : RT C X W a ma) : RT C X W (.UnaryOp .Not a pos) (mNot ma) := by
  obtain ⟨ta, pa, ka⟩ := ha
  refine ⟨_, pt_not pa, fun B ρ F σ H s Q R h => ka B ρ F σ H s _ R (h.bind fun d s1 _ ρ1 F1 H1 v _ _ R1 r1 h1 => ?_)⟩
  cases (show v = d from r1)
  exact h1.now (rfP ρ1) (rfX F1) R1 rfl
/-- the truth of a bool that an expression (a name, a call, a subscript) gives -/
theorem rt_val {a : Expr} {ma : ME} (ha : RE C X W a ma) (he : ∀ whole, isTrue a X.env whole = (do let v ← whole; standAt a.pos; holding [v] (truthy v)) := by intro _; rfl) : RT C X W a (mTest ma) := by
  obtain ⟨ta, pa, ka⟩ := ha
  refine ⟨_, pt_val pa he, fun B ρ F σ H s Q R h => ka B ρ F σ H s _ R (h.bind fun d s1 _ ρ1 F1 H1 v _ _ R1 r1 h1 => ?_)⟩
  split at h1
  · exact ⟨_, r1, h1.now (rfP ρ1) (rfX F1) R1 rfl⟩
  · exact h1.elim
/-- x if t else y -/
def mIfE (t : MT) (a b : ME) : ME := fun s => (t s).bind fun k s' => if k = true then a s' else b s'
theorem re_if {c a b : Expr} {mt : MT} {ma mb : ME} (hc : RT C X W c mt) (ha : RE C X W a ma) (hb : RE C X W b mb) : RE C X W (.IfExp c a b pos) (mIfE mt ma mb) := by
  obtain ⟨tc, pc, kc⟩ := hc
  obtain ⟨ta, pa, ka⟩ := ha
  obtain ⟨tb, pb, kb⟩ := hb
  refine ⟨_, pe_ifExp pc pa pb, fun B ρ F σ H s Q R h => kc B ρ F σ H s _ R (h.bind fun d s1 _ ρ1 F1 H1 v _ _ R1 r1 h1 => ?_)⟩
  cases (show v = d from r1)
  cases d with
  | true => exact ka B ρ1 F1 σ H1 s1 Q R1 h1
  | false => exact kb B ρ1 F1 σ H1 s1 Q R1 h1
end
end ML
end
section
set_option Elab.async false
set_option linter.all false
set_option maxRecDepth 100000
set_option autoImplicit false
/-! ML7: calls of built-ins, methods of texts, slices, chains, is. -/
namespace ML
open PySem PySem.Spec PyProof.Rows L2
section
variable {C : Ctx} {X : Cx} {W : WX} {pos : Pos} {B : Bs} {ρ : List Addr} {F : Hp} {σ : St} {H : Hp} {s : S}
def contL (s : S) : List D → Option (List D)
  | [] => some []
  | d :: ds => match cont s d, contL s ds with
    | some c, some cs => some (c :: cs)
    | _, _ => none
def VwL (C : Ctx) (ρ : List Addr) (F H : Hp) : List D → List V → Prop
  | [], vs => vs = []
  | d :: ds, vs => ∃ v r, vs = v :: r ∧ Vw C ρ F H d v ∧ VwL C ρ F H ds r
theorem Rel.viewL (R : Rel C B ρ F σ H s) : ∀ {ds cs : List D} {vs : List V}, RepTL C ρ F σ ds vs → contL s ds = some cs → VwL C ρ F H cs vs
  | [], _, _, h, e => by cases e; exact h
  | d :: ds, cs, _, ⟨v, r, e, h, t⟩, hc => by
    unfold contL at hc
    split at hc
    · next c cs' e1 e2 => cases hc; exact ⟨v, r, e, R.view h e1, Rel.viewL R t e2⟩
    · cases hc
/-- what a call by values does -/
def SemC (C : Ctx) (r : List V → Hp → VK → Prop) (f : List D → Option D) : Prop :=
  ∀ (ρ : List Addr) (F H : Hp) (cs : List D) (d : D) (vs : List V) (Q : VK), Ex F H → VwL C ρ F H cs vs → f cs = some d → (∀ v F' H', Grow F H F' H' → Rep C ρ F' d v → Q v H') → r vs H Q
def SemCF (C : Ctx) (r : List V → Hp → VK → Prop) (f : List D → Option D) : Prop :=
  ∀ (ρ : List Addr) (F H : Hp) (cs : List D) (d : D) (vs : List V) (Q : VK), Ex F H → VwL C ρ F H cs vs → f cs = some d → (∀ p o, H p = none → ObjR C ρ F d o → Mut (some o) → Q (.ref p) (upd H p o)) → r vs H Q
theorem SemCF.sem {r : List V → Hp → VK → Prop} {f : List D → Option D} (h : SemCF C r f) : SemC C r f := by
  intro ρ F H cs d vs Q xf v e k
  exact h ρ F H cs d vs Q xf v e fun p o hp ro _ => k _ _ _ (Grow.one hp) (ro.rep (xf.back hp))
def orC (f g : List D → Option D) : List D → Option D := fun cs => match f cs with
  | some d => some d
  | none => g cs
theorem SemC.or {r r' : List V → Hp → VK → Prop} {f g : List D → Option D} (h : SemC C r f) (h' : SemC C r' g) : SemC C (fun vs H Q => r vs H Q ∨ r' vs H Q) (orC f g) := by
  intro ρ F H cs d vs Q xf v e k
  unfold orC at e
  split at e
  · next d' e' => cases e; exact .inl (h ρ F H cs _ vs Q xf v e' k)
  · next e' => exact .inr (h' ρ F H cs d vs Q xf v e k)
theorem SemCF.or {r r' : List V → Hp → VK → Prop} {f g : List D → Option D} (h : SemCF C r f) (h' : SemCF C r' g) : SemCF C (fun vs H Q => r vs H Q ∨ r' vs H Q) (orC f g) := by
  intro ρ F H cs d vs Q xf v e k
  unfold orC at e
  split at e
  · next d' e' => cases e; exact .inl (h ρ F H cs _ vs Q xf v e' k)
  · next e' => exact .inr (h' ρ F H cs d vs Q xf v e k)
def mCB (f : List D → Option D) (ma : MA) : ME := fun s => (ma s).bind fun ds s' => match contL s' ds with
  | some cs => match f cs with
    | some d => .ok d s'
    | none => .err
  | none => .err
theorem tCB_ok {t : TA} {ma : MA} {r : List V → Hp → VK → Prop} {f : List D → Option D} (hs : SemC C r f)
    (ka : ∀ (B : Bs) (ρ : List Addr) (F : Hp) (σ : St) (H : Hp) (s : S) (Q : List V → Hp → Prop), Rel C B ρ F σ H s → Post C B W σ (repA C σ) ρ F (ma s) Q → t σ H Q)
    (B : Bs) (ρ : List Addr) (F : Hp) (σ : St) (H : Hp) (s : S) (Q : VK) (R : Rel C B ρ F σ H s) (h : Post C B W σ (repE C σ) ρ F (mCB f ma s) Q) : tCB r t σ H Q := by
  refine ka B ρ F σ H s _ R (h.bind fun ds s1 _ ρ1 F1 H1 vs _ _ R1 r1 h1 => ?_)
  split at h1
  · next cs e1 =>
    split at h1
    · next d e =>
      exact hs ρ1 F1 H1 cs d vs Q R1.sub (R1.viewL r1 e1) e fun v F' H' g rv => h1.now (rfP ρ1) (g.exF R1.sub) (R1.grow g) (RepT.of rv)
    · exact h1.elim
  · exact h1.elim
theorem tCB_okF {t : TA} {ma : MA} {r : List V → Hp → VK → Prop} {f : List D → Option D} (hs : SemCF C r f)
    (ka : ∀ (B : Bs) (ρ : List Addr) (F : Hp) (σ : St) (H : Hp) (s : S) (Q : List V → Hp → Prop), Rel C B ρ F σ H s → Post C B W σ (repA C σ) ρ F (ma s) Q → t σ H Q)
    (B : Bs) (ρ : List Addr) (F : Hp) (σ : St) (H : Hp) (s : S) (Q : VK) (R : Rel C B ρ F σ H s) (h : Post C B W σ (repF C B σ) ρ F (mCB f ma s) Q) : tCB r t σ H Q := by
  refine ka B ρ F σ H s _ R (h.bind fun ds s1 _ ρ1 F1 H1 vs _ _ R1 r1 h1 => ?_)
  split at h1
  · next cs e1 =>
    split at h1
    · next d e =>
      refine hs ρ1 F1 H1 cs d vs Q R1.sub (R1.viewL r1 e1) e fun p o hp ro mo => ?_
      obtain ⟨R3, l⟩ := R1.free (o := o) hp
      exact h1.now (rfP ρ1) (rfX F1) R3 ⟨p, o, rfl, l, ro, mo⟩
    · exact h1.elim
  · exact h1.elim
section
variable {e : Expr} {es : List Expr} {ma : MA} {x : Str} {p : Pos} {r : List V → Hp → VK → Prop} {f : List D → Option D}
theorem re_callB {id : String} (hc : CallR X (.builtin id) r) (hs : SemC C r f) (hg : Gl X x) (hm : X.mg x = none) (hv : bootBuiltins x = some (.builtin id)) (ha : RA C X W (e :: es) ma) (hn : x ≠ "__name__" := by decide) (hdb : (x == ("__debug__" : Str)) = false := by decide)
    (he : starEach (e :: es) X.env = (false, eval e X.env) :: starEach es X.env := by rfl) (hpl : (backTo pos (starEach es X.env)).any (·.1) = false := by rfl) : RE C X W (.Call (.Name x p) (e :: es) [] pos) (mCB f ma) := by
  obtain ⟨ta, pa, ka⟩ := ha
  exact ⟨_, pe_callB hc hg hm hv pa hn hdb he hpl, tCB_ok hs ka⟩
theorem re_callTy {T : String} (hc : CallR X (.type T) r) (hs : SemC C r f) (hg : Gl X x) (hm : X.mg x = none) (hv : bootBuiltins x = some (.type T)) (ha : RA C X W (e :: es) ma) (hn : x ≠ "__name__" := by decide) (hdb : (x == ("__debug__" : Str)) = false := by decide)
    (he : starEach (e :: es) X.env = (false, eval e X.env) :: starEach es X.env := by rfl) (hpl : (backTo pos (starEach es X.env)).any (·.1) = false := by rfl) : RE C X W (.Call (.Name x p) (e :: es) [] pos) (mCB f ma) := by
  obtain ⟨ta, pa, ka⟩ := ha
  exact ⟨_, pe_callTy hc hg hm hv pa hn hdb he hpl, tCB_ok hs ka⟩
theorem rf_callB {id : String} (hc : CallR X (.builtin id) r) (hs : SemCF C r f) (hg : Gl X x) (hm : X.mg x = none) (hv : bootBuiltins x = some (.builtin id)) (ha : RA C X W (e :: es) ma) (hn : x ≠ "__name__" := by decide) (hdb : (x == ("__debug__" : Str)) = false := by decide)
    (he : starEach (e :: es) X.env = (false, eval e X.env) :: starEach es X.env := by rfl) (hpl : (backTo pos (starEach es X.env)).any (·.1) = false := by rfl) : RF C X W (.Call (.Name x p) (e :: es) [] pos) (mCB f ma) := by
  obtain ⟨ta, pa, ka⟩ := ha
  exact ⟨_, pe_callB hc hg hm hv pa hn hdb he hpl, tCB_okF hs ka⟩
theorem rf_callTy {T : String} (hc : CallR X (.type T) r) (hs : SemCF C r f) (hg : Gl X x) (hm : X.mg x = none) (hv : bootBuiltins x = some (.type T)) (ha : RA C X W (e :: es) ma) (hn : x ≠ "__name__" := by decide) (hdb : (x == ("__debug__" : Str)) = false := by decide)
    (he : starEach (e :: es) X.env = (false, eval e X.env) :: starEach es X.env := by rfl) (hpl : (backTo pos (starEach es X.env)).any (·.1) = false := by rfl) : RF C X W (.Call (.Name x p) (e :: es) [] pos) (mCB f ma) := by
  obtain ⟨ta, pa, ka⟩ := ha
  exact ⟨_, pe_callTy hc hg hm hv pa hn hdb he hpl, tCB_okF hs ka⟩
end
theorem vwL1 {c : D} {vs : List V} (h : VwL C ρ F H [c] vs) : ∃ v, vs = [v] ∧ Vw C ρ F H c v := by
  obtain ⟨v, r, e, h, t⟩ := h
  cases (show r = [] from t)
  exact ⟨v, e, h⟩
theorem vwL2 {c c' : D} {vs : List V} (h : VwL C ρ F H [c, c'] vs) : ∃ v v', vs = [v, v'] ∧ Vw C ρ F H c v ∧ Vw C ρ F H c' v' := by
  obtain ⟨v, r, e, h, t⟩ := h
  obtain ⟨v', rfl, h'⟩ := vwL1 t
  exact ⟨v, v', e, h, h'⟩
def nowC {d : D} {v : V} {Q : VK} (k : ∀ v F' H', Grow F H F' H' → Rep C ρ F' d v → Q v H') (r : Rep C ρ F d v) : Q v H := k v F H .refl r
/-! ### len -/
def lenD : List D → Option D
  | [.str x] => if x.length ≤ sizeLine then some (.int x.length) else none
  | [.lst ds] => some (.int ds.length)
  | [.tup ds] => some (.int ds.length)
  | [.scr ns] => some (.int ns.length)
  | _ => none
theorem sem_len (hK : X.K = C.K) : SemC C (fun xs H Q => ∃ x n, xs = [x] ∧ LenV X.K x H n ∧ Q (.int n) H) lenD := by
  intro ρ F H cs d vs Q xf v e k
  unfold lenD at e
  split at e
  · split at e
    · next x hx =>
      cases e
      obtain ⟨v', rfl, h⟩ := vwL1 v
      cases vw_str h
      exact ⟨_, _, rfl, ⟨hx, rfl⟩, nowC k rfl⟩
    · cases e
  · cases e
    obtain ⟨v', rfl, h⟩ := vwL1 v
    obtain ⟨a, ws, rfl, h1, r⟩ := vw_lst h
    exact ⟨_, ws.length, rfl, .inl ⟨ws, SqL.of h1, rfl⟩, by rw [r.length]; exact nowC k rfl⟩
  · cases e
    obtain ⟨v', rfl, h⟩ := vwL1 v
    obtain ⟨a, ws, rfl, h1, r⟩ := vw_tup h
    exact ⟨_, ws.length, rfl, .inr ⟨ws, SqT.of h1, rfl⟩, by rw [r.length]; exact nowC k rfl⟩
  · next ns =>
    cases e
    obtain ⟨v', rfl, h⟩ := vwL1 v
    obtain ⟨a, rfl, h1⟩ := vw_scr xf h
    exact ⟨_, ns.length, rfl, .inl ⟨_, hK ▸ h1, by simp⟩, nowC k rfl⟩
  · cases e
/-! ### str, int -/
def strD : List D → Option D
  | [.int i] => if i.natAbs.log2 < 1920 then some (.str (Str.ofString (toString i))) else none
  | [.bl b] => some (.str (if b then "True" else "False"))
  | [.non] => some (.str "None")
  | _ => none
theorem call_strX : CallR X (.type "str") (fun xs H Q => (∃ i, xs = [.int i] ∧ i.natAbs.log2 < 1920 ∧ Q (.str (toString i)) H) ∨ (∃ b, xs = [.bl b] ∧ Q (.str (if b then "True" else "False")) H) ∨ (xs = [.non] ∧ Q (.str "None") H)) := by
  intro pins s σ H xs us Q I r h
  rcases h with ⟨i, rfl, hz, q⟩ | ⟨b, rfl, q⟩ | ⟨rfl, q⟩
  · exact call_str_int pins s σ H _ us Q I r ⟨i, rfl, hz, q⟩
  · obtain ⟨u, rfl, rx⟩ := vals1 r
    cases rx
    exact PySem.P.str_of_bool ⟨.str _, H, I.tok _, ⟨_, rfl⟩, q⟩
  · obtain ⟨u, rfl, rx⟩ := vals1 r
    cases rx
    exact PySem.P.str_of_none ⟨.str _, H, I.tok _, ⟨_, rfl⟩, q⟩
theorem sem_str : SemC C (fun xs H Q => (∃ i, xs = [.int i] ∧ i.natAbs.log2 < 1920 ∧ Q (.str (toString i)) H) ∨ (∃ b, xs = [.bl b] ∧ Q (.str (if b then "True" else "False")) H) ∨ (xs = [.non] ∧ Q (.str "None") H)) strD := by
  intro ρ F H cs d vs Q xf v e k
  unfold strD at e
  split at e
  · split at e
    · next i hi =>
      cases e
      obtain ⟨v', rfl, h⟩ := vwL1 v
      cases vw_int h
      exact .inl ⟨_, rfl, hi, nowC k rfl⟩
    · cases e
  · cases e
    obtain ⟨v', rfl, h⟩ := vwL1 v
    cases vw_bl h
    exact .inr (.inl ⟨_, rfl, nowC k rfl⟩)
  · cases e
    obtain ⟨v', rfl, h⟩ := vwL1 v
    cases vw_non h
    exact .inr (.inr ⟨rfl, nowC k rfl⟩)
  · cases e
def intD : List D → Option D
  | [.int i] => some (.int i)
  | [.bl b] => some (.int (if b then 1 else 0))
  | [.str x] => if x.length ≤ 640 then match PySem.intText? x with
    | some n => some (.int n)
    | none => none
    else none
  | _ => none
theorem sem_int : SemC C (fun xs H Q => ((∃ i, xs = [.int i] ∧ Q (.int i) H) ∨ ∃ k, xs = [.bl k] ∧ Q (.int (if k then 1 else 0)) H) ∨ ∃ a n, xs = [.str a] ∧ PySem.intText? a = some n ∧ a.length ≤ 640 ∧ Q (.int n) H) intD := by
  intro ρ F H cs d vs Q xf v e k
  unfold intD at e
  split at e
  · cases e
    obtain ⟨v', rfl, h⟩ := vwL1 v
    cases vw_int h
    exact .inl (.inl ⟨_, rfl, nowC k rfl⟩)
  · cases e
    obtain ⟨v', rfl, h⟩ := vwL1 v
    cases vw_bl h
    exact .inl (.inr ⟨_, rfl, nowC k rfl⟩)
  · split at e
    · next x hx =>
      split at e
      · next n hn =>
        cases e
        obtain ⟨v', rfl, h⟩ := vwL1 v
        cases vw_str h
        exact .inr ⟨_, n, rfl, hn, hx, nowC k rfl⟩
      · cases e
    · cases e
  · cases e
theorem call_intX : CallR X (.type "int") (fun xs H Q => ((∃ i, xs = [.int i] ∧ Q (.int i) H) ∨ ∃ k, xs = [.bl k] ∧ Q (.int (if k then 1 else 0)) H) ∨ ∃ a n, xs = [.str a] ∧ PySem.intText? a = some n ∧ a.length ≤ 640 ∧ Q (.int n) H) := call_int1.or call_int_str
/-! ### list, tuple -/
def listD : List D → Option D
  | [.lst ds] => some (.lst ds)
  | [.tup ds] => some (.lst ds)
  | _ => none
theorem sem_list (hK : X.K = C.K) : SemCF C (fun xs H Q => ∃ p ys, xs = [.ref p] ∧ (SqL X.K H p ys ∨ SqT X.K H p ys) ∧ ∀ l, H l = none → Q (.ref l) (upd H l (.lst ys))) listD := by
  intro ρ F H cs d vs Q xf v e k
  unfold listD at e
  split at e
  · cases e
    obtain ⟨v', rfl, h⟩ := vwL1 v
    obtain ⟨a, ws, rfl, h1, r⟩ := vw_lst h
    exact ⟨a, ws, rfl, .inl (SqL.of h1), fun l hl => k l _ hl ⟨ws, rfl, r⟩ trivial⟩
  · cases e
    obtain ⟨v', rfl, h⟩ := vwL1 v
    obtain ⟨a, ws, rfl, h1, r⟩ := vw_tup h
    exact ⟨a, ws, rfl, .inr (SqT.of h1), fun l hl => k l _ hl ⟨ws, rfl, r⟩ trivial⟩
  · cases e
def tupleD : List D → Option D
  | [.lst ds] => some (.tup ds)
  | _ => none
theorem sem_tuple (hK : X.K = C.K) : SemC C (fun xs H Q => ∃ p ys, xs = [.ref p] ∧ ((SqL X.K H p ys ∧ ∀ l, H l = none → Q (.ref l) (upd H l (.tup ys))) ∨ (SqT X.K H p ys ∧ Q (.ref p) H))) tupleD := by
  intro ρ F H cs d vs Q xf v e k
  unfold tupleD at e
  split at e
  · cases e
    obtain ⟨v', rfl, h⟩ := vwL1 v
    obtain ⟨a, ws, rfl, h1, r⟩ := vw_lst h
    exact ⟨a, ws, rfl, .inl ⟨SqL.of h1, fun l hl => k _ _ _ (Grow.one hl) (rep_newT (xf.back hl) r)⟩⟩
  · cases e
/-! ### isinstance, a built-in class -/
def tyD : D → Option String
  | .non => some "NoneType" | .bl _ => some "bool" | .int _ => some "int" | .str _ => some "str" | .lst _ => some "list" | .tup _ => some "tuple" | .dct _ _ => some "dict" | _ => none
theorem tyD_ok (hx : Ex F H) {d : D} {v : V} {T : String} (h : Vw C ρ F H d v) (e : tyD d = some T) : TyX C.K H v (.type T) := by
  cases d with
  | non => cases e; cases vw_non h; exact .base .non
  | bl b => cases e; cases vw_bl h; exact .base (.bl _)
  | int i => cases e; cases vw_int h; exact .base (.int _)
  | str x => cases e; cases vw_str h; exact .base (.str _)
  | lst ds => cases e; obtain ⟨a, ws, rfl, h1, r⟩ := vw_lst h; exact .base (.lst h1)
  | tup ds => cases e; obtain ⟨a, ws, rfl, h1, r⟩ := vw_tup h; exact .base (.tup h1)
  | dct ks ds => cases e; obtain ⟨a, ws, rfl, h1, _, r⟩ := vw_dct h; exact .base (.dK h1)
  | _ => cases e
end
end ML
end
section
set_option Elab.async false
set_option linter.all false
set_option maxRecDepth 100000
set_option autoImplicit false
/-! ML8: isinstance, methods of texts, slices, chains, is True. -/
namespace ML
open PySem PySem.Spec PyProof.Rows L2
section
variable {C : Ctx} {X : Cx} {W : WX} {pos : Pos} {B : Bs} {ρ : List Addr} {F : Hp} {σ : St} {H : Hp} {s : S}
/-! ### isinstance -/
def mIsi (T : String) (a : ME) : ME := fun s => (a s).bind fun d s' => match cont s' d with
  | some c => match tyD c with
    | some t => match kitB t T with
      | some b => .ok (.bl b) s'
      | none => .err
    | none => .err
  | none => .err
theorem re_isi {T : String} {y : Str} {a : Expr} {ma : ME} {p p2 : Pos} (hK : X.K = C.K) (hg : Gl X "isinstance") (hm : X.mg "isinstance" = none) (hgT : Gl X y) (hmT : X.mg y = none) (hvT : bootBuiltins y = some (.type T)) (hyn : y ≠ "__name__") (hyd : (y == ("__debug__" : Str)) = false) (ha : RE C X W a ma)
    (hb : bootBuiltins "isinstance" = some (.builtin "isinstance") := by decide +kernel) (he : starEach [a, .Name y p2] X.env = (false, eval a X.env) :: starEach [.Name y p2] X.env := by rfl) (he2 : starEach [.Name y p2] X.env = (false, eval (.Name y p2) X.env) :: starEach [] X.env := by rfl)
    (hpl : (backTo pos (starEach [.Name y p2] X.env)).any (·.1) = false := by rfl) :
    RE C X W (.Call (.Name "isinstance" p) [a, .Name y p2] [] pos) (mIsi T ma) := by
  obtain ⟨ta, pa, ka⟩ := ha
  refine ⟨_, pe_callB call_isi hg hm hb (pa_cons pa (pa_cons (pe_bltn (v := .ty T) hgT hmT hvT rfl hyn hyd) pa_nil he2) he) (by decide) (by decide) he hpl, fun B ρ F σ H s Q R h => ?_⟩
  refine ka B ρ F σ H s _ R (h.bind fun d s1 _ ρ1 F1 H1 v _ _ R1 r1 h1 => ?_)
  split at h1
  · next c hc =>
    split at h1
    · next t ht =>
      split at h1
      · next b hb => exact ⟨v, .ty T, .type t, .type T, b, rfl, .ty T, hK ▸ tyD_ok R1.sub (R1.view r1 hc) ht, kit_ty hb, h1.now (rfP ρ1) (rfX F1) R1 rfl⟩
      · exact h1.elim
    · exact h1.elim
  · exact h1.elim
/-! ### methods of texts (and other methods that change nothing) -/
def SemM (C : Ctx) (r : V → List V → Hp → VK → Prop) (f : D → List D → Option D) : Prop :=
  ∀ (ρ : List Addr) (F H : Hp) (c : D) (cs : List D) (d : D) (x : V) (vs : List V) (Q : VK), Ex F H → Vw C ρ F H c x → VwL C ρ F H cs vs → f c cs = some d → (∀ v F' H', Grow F H F' H' → Rep C ρ F' d v → Q v H') → r x vs H Q
def SemMF (C : Ctx) (r : V → List V → Hp → VK → Prop) (f : D → List D → Option D) : Prop :=
  ∀ (ρ : List Addr) (F H : Hp) (c : D) (cs : List D) (d : D) (x : V) (vs : List V) (Q : VK), Ex F H → Vw C ρ F H c x → VwL C ρ F H cs vs → f c cs = some d → (∀ p o, H p = none → ObjR C ρ F d o → Mut (some o) → Q (.ref p) (upd H p o)) → r x vs H Q
/-- the receiver's class -/
def ofTy (T : String) : D → Bool
  | .str _ => T == "str"
  | .lst _ => T == "list"
  | .dct _ _ => T == "dict"
  | _ => false
theorem ofTy_ok {T : String} {K : PySem.W.Frag} {c : D} {x : V} (h : Vw C ρ F H c x) (e : ofTy T c = true) : tyV K T x H := by
  cases c with
  | str z => cases vw_str h; exact eq_of_beq e
  | lst ds => obtain ⟨a, vs, rfl, h1, _⟩ := vw_lst h; exact .inl ⟨eq_of_beq e, vs, SqL.of h1⟩
  | dct ks ds => obtain ⟨a, vs, rfl, h1, _⟩ := vw_dct h; exact .inr (.inr (.inl ⟨eq_of_beq e, .inl ⟨vs, h1⟩⟩))
  | _ => cases e
def mMeth (T : String) (f : D → List D → Option D) (mo : ME) (ma : MA) : ME := fun s => (mo s).bind fun d s1 => match cont s1 d with
  | some c1 => if ofTy T c1 = true then (ma s1).bind fun ds s2 => match cont s2 d, contL s2 ds with
      | some c, some cs => match f c cs with
        | some e => .ok e s2
        | none => .err
      | _, _ => .err
    else .err
  | none => .err
section
variable {o e : Expr} {es : List Expr} {name : Str} {apos cpos : Pos} {T id : String} {r : V → List V → Hp → VK → Prop} {f : D → List D → Option D} {mo : ME} {ma : MA}
theorem tBM_ok {to : TE} {t : TA} {K : PySem.W.Frag} (hs : SemM C r f)
    (ko : ∀ (B : Bs) (ρ : List Addr) (F : Hp) (σ : St) (H : Hp) (s : S) (Q : VK), Rel C B ρ F σ H s → Post C B W σ (repE C σ) ρ F (mo s) Q → to σ H Q)
    (ka : ∀ (B : Bs) (ρ : List Addr) (F : Hp) (σ : St) (H : Hp) (s : S) (Q : List V → Hp → Prop), Rel C B ρ F σ H s → Post C B W σ (repA C σ) ρ F (ma s) Q → t σ H Q)
    (B : Bs) (ρ : List Addr) (F : Hp) (σ : St) (H : Hp) (s : S) (Q : VK) (R : Rel C B ρ F σ H s) (h : Post C B W σ (repE C σ) ρ F (mMeth T f mo ma s) Q) : tBM K T r to t σ H Q := by
  refine ko B ρ F σ H s _ R (h.bind fun d s1 _ ρ1 F1 H1 x _ _ R1 r1 h1 => ?_)
  split at h1
  · next c1 hc1 =>
    split at h1
    · next ht =>
      refine ⟨ofTy_ok (R1.view r1 hc1) ht, ?_⟩
      refine ka B ρ1 F1 σ H1 s1 _ R1 (h1.bind fun ds s2 _ ρ2 F2 H2 vs p2 x2 R2 r2 h2 => ?_)
      split at h2
      · next c cs e1 e2 =>
        split at h2
        · next e e3 =>
          exact hs ρ2 F2 H2 c cs e x vs Q R2.sub (R2.view (RepT.mono p2 x2 r1) e1) (R2.viewL r2 e2) e3 fun v F' H' g rv => h2.now (rfP ρ2) (g.exF R2.sub) (R2.grow g) (RepT.of rv)
        · exact h2.elim
      · exact h2.elim
    · exact h1.elim
  · exact h1.elim
theorem tBM_okF {to : TE} {t : TA} {K : PySem.W.Frag} (hs : SemMF C r f)
    (ko : ∀ (B : Bs) (ρ : List Addr) (F : Hp) (σ : St) (H : Hp) (s : S) (Q : VK), Rel C B ρ F σ H s → Post C B W σ (repE C σ) ρ F (mo s) Q → to σ H Q)
    (ka : ∀ (B : Bs) (ρ : List Addr) (F : Hp) (σ : St) (H : Hp) (s : S) (Q : List V → Hp → Prop), Rel C B ρ F σ H s → Post C B W σ (repA C σ) ρ F (ma s) Q → t σ H Q)
    (B : Bs) (ρ : List Addr) (F : Hp) (σ : St) (H : Hp) (s : S) (Q : VK) (R : Rel C B ρ F σ H s) (h : Post C B W σ (repF C B σ) ρ F (mMeth T f mo ma s) Q) : tBM K T r to t σ H Q := by
  refine ko B ρ F σ H s _ R (h.bind fun d s1 _ ρ1 F1 H1 x _ _ R1 r1 h1 => ?_)
  split at h1
  · next c1 hc1 =>
    split at h1
    · next ht =>
      refine ⟨ofTy_ok (R1.view r1 hc1) ht, ?_⟩
      refine ka B ρ1 F1 σ H1 s1 _ R1 (h1.bind fun ds s2 _ ρ2 F2 H2 vs p2 x2 R2 r2 h2 => ?_)
      split at h2
      · next c cs e1 e2 =>
        split at h2
        · next e e3 =>
          refine hs ρ2 F2 H2 c cs e x vs Q R2.sub (R2.view (RepT.mono p2 x2 r1) e1) (R2.viewL r2 e2) e3 fun p o hp ro mo => ?_
          obtain ⟨R3, l⟩ := R2.free (o := o) hp
          exact h2.now (rfP ρ2) (rfX F2) R3 ⟨p, o, rfl, l, ro, mo⟩
        · exact h2.elim
      · exact h2.elim
    · exact h1.elim
  · exact h1.elim
theorem re_meth (pa : PlainAttrs T) (slot : Slot T name id) (hty : typeOf (.builtin id) = pure (.type "method_descriptor")) (hm : MtR X id r) (hs : SemM C r f) (ho : RE C X W o mo) (ha : RA C X W (e :: es) ma)
    (hbase : attributeBase o name X.env (eval o X.env) = eval o X.env := by rfl)
    (hfew : ((backTo cpos (starEach (e :: es) X.env)).all (fun x => !x.1) && (backToKw cpos (keywordEach [] X.env)).all (fun x => x.1.isSome)
      && decide ((e :: es).length + ([] : List Keyword).length + (if ([] : List Keyword).isEmpty then 0 else 1) < 30)) = true := by rfl)
    (hline : (apos.endLine == cpos.line) = true := by rfl) (hst : starEach (e :: es) X.env = (false, eval e X.env) :: starEach es X.env := by rfl) (hplain : (backTo cpos (starEach es X.env)).any (·.1) = false := by rfl) :
    RE C X W (.Call (.Attribute o name apos) (e :: es) [] cpos) (mMeth T f mo ma) := by
  obtain ⟨to, po, ko⟩ := ho
  obtain ⟨t, p, k⟩ := ha
  exact ⟨_, pe_bm pa slot hty hm po p hbase hfew hline hst hplain, tBM_ok hs ko k⟩
theorem rf_meth (pa : PlainAttrs T) (slot : Slot T name id) (hty : typeOf (.builtin id) = pure (.type "method_descriptor")) (hm : MtR X id r) (hs : SemMF C r f) (ho : RE C X W o mo) (ha : RA C X W (e :: es) ma)
    (hbase : attributeBase o name X.env (eval o X.env) = eval o X.env := by rfl)
    (hfew : ((backTo cpos (starEach (e :: es) X.env)).all (fun x => !x.1) && (backToKw cpos (keywordEach [] X.env)).all (fun x => x.1.isSome)
      && decide ((e :: es).length + ([] : List Keyword).length + (if ([] : List Keyword).isEmpty then 0 else 1) < 30)) = true := by rfl)
    (hline : (apos.endLine == cpos.line) = true := by rfl) (hst : starEach (e :: es) X.env = (false, eval e X.env) :: starEach es X.env := by rfl) (hplain : (backTo cpos (starEach es X.env)).any (·.1) = false := by rfl) :
    RF C X W (.Call (.Attribute o name apos) (e :: es) [] cpos) (mMeth T f mo ma) := by
  obtain ⟨to, po, ko⟩ := ho
  obtain ⟨t, p, k⟩ := ha
  exact ⟨_, pe_bm pa slot hty hm po p hbase hfew hline hst hplain, tBM_okF hs ko k⟩
end
/-- texts in a list -/
def strsD : List D → Option (List Str)
  | [] => some []
  | .str x :: ds => match strsD ds with
    | some xs => some (x :: xs)
    | none => none
  | _ => none
theorem strsD_ok : ∀ {ds : List D} {xs : List Str} {vs : List V}, RepL C ρ F ds vs → strsD ds = some xs → vs = xs.map V.str
  | [], _, _, h, e => by cases e; exact h
  | d :: ds, xs, _, ⟨v, r, e1, h, t⟩, e => by
    subst e1
    cases d with
    | str x =>
      simp only [strsD] at e
      split at e
      · next ys hy =>
        cases e
        cases (show v = .str x from h)
        rw [strsD_ok t hy]
        rfl
      · cases e
    | _ => simp [strsD] at e
theorem repL_strs : ∀ (xs : List Str), RepL C ρ F (xs.map D.str) (xs.map V.str)
  | [] => rfl
  | x :: xs => ⟨_, _, rfl, rfl, repL_strs xs⟩
def joinD : D → List D → Option D
  | .str a, [.lst ds] => match strsD ds with
    | some ys => if (ys.map (·.length)).sum + ys.length * a.length ≤ 16777216 then some (.str (Txt.join a ys)) else none
    | none => none
  | _, _ => none
theorem sem_join (hK : X.K = C.K) : SemM C (fun x xs H Q => ∃ a p, ∃ ys : List Str, x = .str a ∧ xs = [.ref p] ∧ (SqL X.K H p (ys.map V.str) ∨ SqT X.K H p (ys.map V.str)) ∧
    (ys.map (·.length)).sum + ys.length * a.length ≤ 16777216 ∧ Q (.str (Txt.join a ys)) H) joinD := by
  intro ρ F H c cs d x vs Q xf v1 v2 e k
  unfold joinD at e
  split at e
  · split at e
    · next ys hy =>
      split at e
      · next hz =>
        cases e
        cases vw_str v1
        obtain ⟨v', rfl, h⟩ := vwL1 v2
        obtain ⟨a, ws, rfl, h1, r⟩ := vw_lst h
        exact ⟨_, a, ys, rfl, rfl, .inl (SqL.of (by rw [← strsD_ok r hy]; exact h1)), hz, nowC k rfl⟩
      · cases e
    · cases e
  · cases e
def splitD : D → List D → Option D
  | .str a, [.str b] => if (b.length == 0) = false ∧ a.length + 2 ≤ sizeLine then some (.lst ((Txt.split a b).map D.str)) else none
  | _, _ => none
theorem sem_split : SemMF C (fun x xs H Q => ∃ a b, x = .str a ∧ xs = [.str b] ∧ (b.length == 0) = false ∧ a.length + 2 ≤ sizeLine ∧ rNewStrs (Txt.split a b) H Q) splitD := by
  intro ρ F H c cs d x vs Q xf v1 v2 e k
  unfold splitD at e
  split at e
  · split at e
    · next hz =>
      cases e
      cases vw_str v1
      obtain ⟨v', rfl, h⟩ := vwL1 v2
      cases vw_str h
      exact ⟨_, _, rfl, rfl, hz.1, hz.2, fun p hp => k p _ hp ⟨_, rfl, repL_strs _⟩ trivial⟩
    · cases e
  · cases e
def partD : D → List D → Option D
  | .str a, [.str b] => if (b.length == 0) = false ∧ a.length ≤ sizeLine then some (.tup [.str (Txt.partition a b).1, .str (Txt.partition a b).2.1, .str (Txt.partition a b).2.2]) else none
  | _, _ => none
theorem sem_part : SemM C (fun x xs H Q => ∃ a b, x = .str a ∧ xs = [.str b] ∧ (b.length == 0) = false ∧ a.length ≤ sizeLine ∧
    ∀ p, H p = none → Q (.ref p) (upd H p (.tup [.str (Txt.partition a b).1, .str (Txt.partition a b).2.1, .str (Txt.partition a b).2.2]))) partD := by
  intro ρ F H c cs d x vs Q xf v1 v2 e k
  unfold partD at e
  split at e
  · split at e
    · next hz =>
      cases e
      cases vw_str v1
      obtain ⟨v', rfl, h⟩ := vwL1 v2
      cases vw_str h
      exact ⟨_, _, rfl, rfl, hz.1, hz.2, fun p hp => k _ _ _ (Grow.one hp) (rep_newT (xf.back hp) ⟨_, _, rfl, rfl, _, _, rfl, rfl, _, _, rfl, rfl, rfl⟩)⟩
    · cases e
  · cases e
def startsD : D → List D → Option D
  | .str a, [.str b] => some (.bl (Txt.startswith a b))
  | _, _ => none
theorem sem_starts : SemM C (fun x xs H Q => ∃ a b, x = .str a ∧ xs = [.str b] ∧ Q (.bl (Txt.startswith a b)) H) startsD := by
  intro ρ F H c cs d x vs Q xf v1 v2 e k
  unfold startsD at e
  split at e
  · cases e
    cases vw_str v1
    obtain ⟨v', rfl, h⟩ := vwL1 v2
    cases vw_str h
    exact ⟨_, _, rfl, rfl, nowC k rfl⟩
  · cases e
/-! ### is True, is False -/
def isB (neg : Bool) : D → D → Option D
  | .bl a, .bl b => some (.bl (if neg then !decide (a = b) else decide (a = b)))
  | _, _ => none
/-! ### chains -/
def mChain (f g : D → D → Option D) (a b c : ME) : ME := fun s => (a s).bind fun d1 s1 => (b s1).bind fun d2 s2 => (lift2 f d1 d2 s2).bind fun d s3 => match d with
  | .bl true => (c s3).bind fun d3 s4 => lift2 g d2 d3 s4
  | .bl false => .ok (.bl false) s3
  | _ => .err
theorem lift2_bind {f : D → D → Option D} {d1 d2 : D} {s : S} {B : Bs} {σ : St} {ρ : List Addr} {F H : Hp} {x y : V} {r : R2} {γ δ : Type} {rep' : List Addr → Hp → Hp → S → γ → δ → Prop} {K : D → S → R γ} {Q : δ → Hp → Prop} {Q' : VK} (hs : SemB C r f) (R : Rel C B ρ F σ H s)
    (r1 : RepT C ρ F σ d1 x) (r2 : RepT C ρ F σ d2 y) (h : Post C B W σ rep' ρ F ((lift2 f d1 d2 s).bind K) Q)
    (k : ∀ d ρ' F' H' v, ρ <+: ρ' → Ex F F' → Rel C B ρ' F' σ H' s → RepT C ρ' F' σ d v → Post C B W σ rep' ρ' F' (K d s) Q → Q' v H') : r x y H Q' := by
  refine lift2_ok hs R r1 r2 (h.bind fun d s' e ρ' F' H' v pr xf R' rv h' => ?_)
  have es : s' = s := by
    unfold lift2 at e
    split at e
    · split at e
      · cases e; rfl
      · cases e
    · cases e
  subst es
  exact k d ρ' F' H' v pr xf R' rv h'
theorem tChain_ok {r r' : R2} {f g : D → D → Option D} {ta tb tc : TE} {ma mb mc : ME} (hf : SemB C r f) (hg : SemB C r' g)
    (ka : ∀ (B : Bs) (ρ : List Addr) (F : Hp) (σ : St) (H : Hp) (s : S) (Q : VK), Rel C B ρ F σ H s → Post C B W σ (repE C σ) ρ F (ma s) Q → ta σ H Q)
    (kb : ∀ (B : Bs) (ρ : List Addr) (F : Hp) (σ : St) (H : Hp) (s : S) (Q : VK), Rel C B ρ F σ H s → Post C B W σ (repE C σ) ρ F (mb s) Q → tb σ H Q)
    (kc : ∀ (B : Bs) (ρ : List Addr) (F : Hp) (σ : St) (H : Hp) (s : S) (Q : VK), Rel C B ρ F σ H s → Post C B W σ (repE C σ) ρ F (mc s) Q → tc σ H Q)
    (B : Bs) (ρ : List Addr) (F : Hp) (σ : St) (H : Hp) (s : S) (Q : VK) (R : Rel C B ρ F σ H s) (h : Post C B W σ (repE C σ) ρ F (mChain f g ma mb mc s) Q) : tChain r r' ta tb tc σ H Q := by
  refine ka B ρ F σ H s _ R (h.bind fun d1 s1 _ ρ1 F1 H1 x _ _ R1 r1 h1 => ?_)
  refine kb B ρ1 F1 σ H1 s1 _ R1 (h1.bind fun d2 s2 _ ρ2 F2 H2 y p2 x2 R2 r2 h2 => ?_)
  refine lift2_bind hf R2 (RepT.mono p2 x2 r1) r2 h2 fun d ρ3 F3 H3 v p3 x3 R3 rv h3 => ?_
  split at h3
  · refine ⟨true, rv, ?_⟩
    rw [if_pos rfl]
    refine kc B ρ3 F3 σ H3 s2 _ R3 (h3.bind fun d3 s4 _ ρ4 F4 H4 z p4 x4 R4 r4 h4 => ?_)
    exact lift2_ok hg R4 (RepT.mono p4 x4 (RepT.mono p3 x3 r2)) r4 h4
  · refine ⟨false, rv, ?_⟩
    rw [if_neg Bool.false_ne_true]
    exact h3.now (rfP ρ3) (rfX F3) R3 rfl
  · exact h3.elim
theorem re_chain {op op' : CmpOp} {a b c : Expr} {r r' : R2} {f g : D → D → Option D} {ma mb mc : ME} (ho : OpR X (compareOp op) r) (ho' : OpR X (compareOp op') r') (hf : SemB C r f) (hg : SemB C r' g) (ha : RE C X W a ma) (hb : RE C X W b mb) (hc : RE C X W c mc)
    (hm : lastMarks [op, op'] [b, c] = false := by with_unfolding_all rfl) : RE C X W (.Compare a [op, op'] [b, c] pos) (mChain f g ma mb mc) := by
  obtain ⟨ta, pa, ka⟩ := ha
  obtain ⟨tb, pb, kb⟩ := hb
  obtain ⟨tc, pc, kc⟩ := hc
  exact ⟨_, pe_chain ho ho' pa pb pc hm, tChain_ok hf hg ka kb kc⟩
theorem rt_chain {op op' : CmpOp} {a b c : Expr} {r r' : R2} {f g : D → D → Option D} {ma mb mc : ME} (ho : OpR X (compareOp op) r) (ho' : OpR X (compareOp op') r') (hf : SemB C r f) (hg : SemB C r' g) (ha : RE C X W a ma) (hb : RE C X W b mb) (hc : RE C X W c mc)
    (hm : lastMarks [op, op'] [b, c] = false := by with_unfolding_all rfl) : RT C X W (.Compare a [op, op'] [b, c] pos) (mTest (mChain f g ma mb mc)) := by
  obtain ⟨ta, pa, ka⟩ := ha
  obtain ⟨tb, pb, kb⟩ := hb
  obtain ⟨tc, pc, kc⟩ := hc
  refine ⟨_, pt_chain ho ho' pa pb pc hm, fun B ρ F σ H s Q R h => ?_⟩
  refine tChain_ok hf hg ka kb kc B ρ F σ H s _ R (h.bind fun d s1 _ ρ1 F1 H1 v _ _ R1 r1 h1 => ?_)
  split at h1
  · exact ⟨_, r1, h1.now (rfP ρ1) (rfX F1) R1 rfl⟩
  · exact h1.elim
/-! ### slices -/
def cutD {α : Type} (xs : List α) (lo hi : Option Int) : List α := (xs.drop (HT.sIx xs.length 0 lo)).take (HT.sIx xs.length xs.length hi - HT.sIx xs.length 0 lo)
abbrev MO := S → R (Option Int)
def repO : List Addr → Hp → Hp → S → Option Int → Option Int → Prop := fun _ _ _ _ a b => b = a
def RO (C : Ctx) (X : Cx) (W : WX) (e : Option Expr) (m : MO) : Prop :=
  ∃ t : TO, PO X e t ∧ ∀ (B : Bs) (ρ : List Addr) (F : Hp) (σ : St) (H : Hp) (s : S) (Q : Option Int → Hp → Prop), Rel C B ρ F σ H s → Post C B W σ repO ρ F (m s) Q → t σ H Q
def mNoPart : MO := fun s => .ok none s
def mPart (a : ME) : MO := fun s => (a s).bind fun d s' => match d with
  | .int i => .ok (some i) s'
  | _ => .err
theorem ro_none : RO C X W none mNoPart := ⟨_, po_none, fun B ρ F σ H s Q R h => h.now (rfP ρ) (rfX F) R rfl⟩
theorem ro_some {e : Expr} {m : ME} (h : RE C X W e m) : RO C X W (some e) (mPart m) := by
  obtain ⟨ta, pa, ka⟩ := h
  refine ⟨_, po_some pa, fun B ρ F σ H s Q R h => ka B ρ F σ H s _ R (h.bind fun d s1 _ ρ1 F1 H1 v _ _ R1 r1 h1 => ?_)⟩
  split at h1
  · exact ⟨_, r1, h1.now (rfP ρ1) (rfX F1) R1 rfl⟩
  · exact h1.elim
def slD (c : D) (lo hi : Option Int) : Option D := match c with
  | .lst ds => some (.lst (cutD ds lo hi))
  | .scr ns => some (.lst ((cutD ns lo hi).map D.int))
  | .str z => if z.length ≤ sizeLine then some (.str (cutS z lo hi)) else none
  | _ => none
def slL (c : D) (lo hi : Option Int) : Option D := match c with
  | .lst ds => some (.lst (cutD ds lo hi))
  | .scr ns => some (.lst ((cutD ns lo hi).map D.int))
  | _ => none
theorem RepL.take {ds : List D} {vs : List V} (h : RepL C ρ F ds vs) : ∀ n : Nat, RepL C ρ F (ds.take n) (vs.take n) := by
  intro n
  induction ds generalizing vs n with
  | nil => cases (show vs = [] from h); simp; exact RepL.nil
  | cons d ds ih =>
    obtain ⟨v, r, e, h1, t⟩ := h
    subst e
    cases n with
    | zero => exact RepL.nil
    | succ n => exact ⟨v, _, rfl, h1, ih t n⟩
theorem RepL.drop {ds : List D} {vs : List V} (h : RepL C ρ F ds vs) : ∀ n : Nat, RepL C ρ F (ds.drop n) (vs.drop n) := by
  intro n
  induction ds generalizing vs n with
  | nil => cases (show vs = [] from h); simp; exact RepL.nil
  | cons d ds ih =>
    obtain ⟨v, r, e, h1, t⟩ := h
    subst e
    cases n with
    | zero => exact ⟨v, _, rfl, h1, t⟩
    | succ n => exact ih t n
theorem RepL.cut {ds : List D} {vs : List V} (h : RepL C ρ F ds vs) (lo hi : Option Int) : RepL C ρ F (cutD ds lo hi) (cutV vs lo hi) := by
  unfold cutD cutV
  rw [h.length]
  exact (h.drop _).take _
theorem repL_ints : ∀ (xs : List Int), RepL C ρ F (xs.map D.int) (xs.map V.int)
  | [] => rfl
  | x :: xs => ⟨_, _, rfl, rfl, repL_ints xs⟩
theorem cut_map {α β : Type} (f : α → β) (xs : List α) (lo hi : Option Int) : cutD (xs.map f) lo hi = (cutD xs lo hi).map f := by
  unfold cutD
  simp [List.map_take, List.map_drop]
def mSl (f : D → Option Int → Option Int → Option D) (a : ME) (l h : MO) : ME := fun s => (a s).bind fun d s1 => (l s1).bind fun lo s2 => (h s2).bind fun hi s3 => match cont s3 d with
  | some c => match f c lo hi with
    | some e => .ok e s3
    | none => .err
  | none => .err
theorem rf_sl {a : Expr} {lo hi : Option Expr} {ma : ME} {ml mh : MO} {p2 : Pos} (hK : X.K = C.K) (ha : RE C X W a ma) (hl : RO C X W lo ml) (hh : RO C X W hi mh) : RF C X W (.Subscript a (.Slice lo hi none p2) pos) (mSl slL ma ml mh) := by
  obtain ⟨ta, pa, ka⟩ := ha
  obtain ⟨tl, pl, kl⟩ := hl
  obtain ⟨th, ph, kh⟩ := hh
  refine ⟨_, pe_slice sl_list pa pl ph, fun B ρ F σ H s Q R h => ?_⟩
  refine ka B ρ F σ H s _ R (h.bind fun d1 s1 _ ρ1 F1 H1 x _ _ R1 r1 h1 => ?_)
  refine kl B ρ1 F1 σ H1 s1 _ R1 (h1.bind fun l s2 _ ρ2 F2 H2 y p2 x2 R2 r2 h2 => ?_)
  refine kh B ρ2 F2 σ H2 s2 _ R2 (h2.bind fun u s3 _ ρ3 F3 H3 z p3 x3 R3 r3 h3 => ?_)
  cases (show y = l from r2)
  cases (show z = u from r3)
  split at h3
  · next c hc =>
    split at h3
    · next e he =>
      have vw := R3.view (RepT.mono p3 x3 (RepT.mono p2 x2 r1)) hc
      unfold slL at he
      split at he
      · cases he
        obtain ⟨b, vs, rfl, g1, r⟩ := vw_lst vw
        refine ⟨b, vs, rfl, SqL.of g1, fun p hp => ?_⟩
        obtain ⟨R4, lo4⟩ := R3.free (o := .lst (cutV vs l u)) hp
        exact h3.now (rfP ρ3) (rfX F3) R4 ⟨p, _, rfl, lo4, ⟨_, rfl, r.cut l u⟩, trivial⟩
      · next ns =>
        cases he
        obtain ⟨b, rfl, g1⟩ := vw_scr R3.sub vw
        refine ⟨b, _, rfl, hK ▸ g1, fun p hp => ?_⟩
        obtain ⟨R4, lo4⟩ := R3.free (o := .lst (cutV (ns.map V.int) l u)) hp
        refine h3.now (rfP ρ3) (rfX F3) R4 ⟨p, _, rfl, lo4, ⟨_, rfl, ?_⟩, trivial⟩
        show RepL C ρ3 F3 _ (cutD (ns.map V.int) l u)
        rw [cut_map]
        exact repL_ints _
      · cases he
    · exact h3.elim
  · exact h3.elim
def slS (c : D) (lo hi : Option Int) : Option D := match c with
  | .str z => if z.length ≤ sizeLine then some (.str (cutS z lo hi)) else none
  | _ => none
theorem re_slS {a : Expr} {lo hi : Option Expr} {ma : ME} {ml mh : MO} {p2 : Pos} (ha : RE C X W a ma) (hl : RO C X W lo ml) (hh : RO C X W hi mh) : RE C X W (.Subscript a (.Slice lo hi none p2) pos) (mSl slS ma ml mh) := by
  obtain ⟨ta, pa, ka⟩ := ha
  obtain ⟨tl, pl, kl⟩ := hl
  obtain ⟨th, ph, kh⟩ := hh
  refine ⟨_, pe_slice sl_str pa pl ph, fun B ρ F σ H s Q R h => ?_⟩
  refine ka B ρ F σ H s _ R (h.bind fun d1 s1 _ ρ1 F1 H1 x _ _ R1 r1 h1 => ?_)
  refine kl B ρ1 F1 σ H1 s1 _ R1 (h1.bind fun l s2 _ ρ2 F2 H2 y p2 x2 R2 r2 h2 => ?_)
  refine kh B ρ2 F2 σ H2 s2 _ R2 (h2.bind fun u s3 _ ρ3 F3 H3 z p3 x3 R3 r3 h3 => ?_)
  cases (show y = l from r2)
  cases (show z = u from r3)
  split at h3
  · next c hc =>
    split at h3
    · next e he =>
      have vw := R3.view (RepT.mono p3 x3 (RepT.mono p2 x2 r1)) hc
      unfold slS at he
      split at he
      · split at he
        · next hz =>
          cases he
          exact ⟨_, vw_str vw, hz, h3.now (rfP ρ3) (rfX F3) R3 rfl⟩
        · cases he
      · cases he
    · exact h3.elim
  · exact h3.elim
end
end ML
end
section
set_option Elab.async false
set_option linter.all false
set_option maxRecDepth 100000
set_option autoImplicit false
/-! ML9: statements (RS), blocks (RSs), targets (RG), loops. -/
namespace ML
open PySem PySem.Spec PyProof.Rows L2
inductive Fl where
  | nx (s : S) | rt (d : D) (s : S) | bk (s : S) | ct (s : S) | exc (x : Xn) (s : S) | err
abbrev MS := S → Fl
def PostS (C : Ctx) (B : Bs) (W : WX) (ρ : List Addr) (F : Hp) (r : Fl) (D : Ends) : Prop := match r with
  | .nx s' => ∀ ρ' F' σ' H', ρ <+: ρ' → Ex F F' → Rel C B ρ' F' σ' H' s' → D.nx σ' H'
  | .rt d s' => ∀ ρ' F' σ' H' v, ρ <+: ρ' → Ex F F' → Rel C B ρ' F' σ' H' s' → Rep C ρ' F' d v → D.rt v H'
  | .bk s' => ∀ ρ' F' σ' H', ρ <+: ρ' → Ex F F' → Rel C B ρ' F' σ' H' s' → D.bk σ' H'
  | .ct s' => ∀ ρ' F' σ' H', ρ <+: ρ' → Ex F F' → Rel C B ρ' F' σ' H' s' → D.ct σ' H'
  | .exc x s' => ∀ ρ' F' σ' H' cls dd, ρ <+: ρ' → Ex F F' → Rel C B ρ' F' σ' H' s' → XRep C ρ' F' x cls dd → W cls dd σ' H'
  | .err => False
/-- i: whether an instance is being made (then its slot's object stood at the entry) -/
def RS (C : Ctx) (X : Cx) (W : WX) (i : Bool) (st : Stmt) (m : MS) : Prop :=
  ∃ t : TS, PS X st t ∧ ∀ (B : Bs) (ρ : List Addr) (F : Hp) (σ : St) (H : Hp) (s : S) (D : Ends), (i = false → B.ex = []) → Rel C B ρ F σ H s → PostS C B W ρ F (m s) D → t D σ H
def RSs (C : Ctx) (X : Cx) (W : WX) (i : Bool) (sts : List Stmt) (m : MS) : Prop :=
  ∃ t : TS, PSs X sts t ∧ ∀ (B : Bs) (ρ : List Addr) (F : Hp) (σ : St) (H : Hp) (s : S) (D : Ends), (i = false → B.ex = []) → Rel C B ρ F σ H s → PostS C B W ρ F (m s) D → t D σ H
section
variable {C : Ctx} {X : Cx} {W : WX} {pos : Pos} {B : Bs} {ρ ρ' : List Addr} {F F' : Hp} {σ : St} {H : Hp} {s : S} {i : Bool}
theorem PostS.weak {r : Fl} {D : Ends} (h : PostS C B W ρ F r D) (hr : ρ <+: ρ') (hf : Ex F F') : PostS C B W ρ' F' r D := by
  cases r with
  | nx s => exact fun ρ2 F2 σ2 H2 a b => h ρ2 F2 σ2 H2 (hr.trans a) (hf.trans b)
  | rt d s => exact fun ρ2 F2 σ2 H2 v a b => h ρ2 F2 σ2 H2 v (hr.trans a) (hf.trans b)
  | bk s => exact fun ρ2 F2 σ2 H2 a b => h ρ2 F2 σ2 H2 (hr.trans a) (hf.trans b)
  | ct s => exact fun ρ2 F2 σ2 H2 a b => h ρ2 F2 σ2 H2 (hr.trans a) (hf.trans b)
  | exc x s => exact fun ρ2 F2 σ2 H2 v dd a b => h ρ2 F2 σ2 H2 v dd (hr.trans a) (hf.trans b)
  | err => exact h
/-- an expression, then a statement's end -/
def R.thenS {α : Type} (r : R α) (f : α → S → Fl) : Fl := match r with
  | .ok a s => f a s
  | .exc x s => .exc x s
  | .err => .err
theorem PostS.bind {α β : Type} {rep : List Addr → Hp → Hp → S → α → β → Prop} {r : R α} {f : α → S → Fl} {D : Ends} {K : β → Hp → Prop} (h : PostS C B W ρ F (r.thenS f) D)
    (k : ∀ d s', r = .ok d s' → ∀ ρ' F' H' v, ρ <+: ρ' → Ex F F' → Rel C B ρ' F' σ H' s' → rep ρ' F' H' s' d v → PostS C B W ρ' F' (f d s') D → K v H') : Post C B W σ rep ρ F r K := by
  cases r with
  | ok d s => exact fun ρ2 F2 H2 v a b R r => k d s rfl ρ2 F2 H2 v a b R r (PostS.weak h a b)
  | exc x s => exact fun ρ2 F2 H2 v dd a b R r => h ρ2 F2 σ H2 v dd a b R r
  | err => exact h
/-! ### blocks -/
def mSkip : MS := fun s => .nx s
def mSeq (a b : MS) : MS := fun s => match a s with
  | .nx s' => b s'
  | o => o
theorem rss_nil : RSs C X W i [] mSkip := ⟨_, pss_nil, fun B ρ F σ H s D hi R h => h ρ F σ H (rfP ρ) (rfX F) R⟩
theorem rss_cons {st : Stmt} {r : List Stmt} {a b : MS} (h1 : RS C X W i st a) (h2 : RSs C X W i r b) : RSs C X W i (st :: r) (mSeq a b) := by
  obtain ⟨ta, pa, ka⟩ := h1
  obtain ⟨tb, pb, kb⟩ := h2
  refine ⟨_, pss_cons pa pb, fun B ρ F σ H s D hi R h => ka B ρ F σ H s _ hi R ?_⟩
  unfold mSeq at h
  cases q : a s with
  | nx s' =>
    rw [q] at h
    exact fun ρ1 F1 σ1 H1 p x R1 => kb B ρ1 F1 σ1 H1 s' D hi R1 (PostS.weak h p x)
  | rt d s' => rw [q] at h; exact h
  | bk s' => rw [q] at h; exact h
  | ct s' => rw [q] at h; exact h
  | exc x s' => rw [q] at h; exact h
  | err => rw [q] at h; exact h
theorem rss_one {st : Stmt} {a : MS} (h1 : RS C X W i st a) : RSs C X W i [st] a := by
  obtain ⟨ta, pa, ka⟩ := h1
  exact ⟨_, pss_one pa, ka⟩
theorem rs_pass : RS C X W i (.Pass pos) mSkip := ⟨_, ps_pass, fun B ρ F σ H s D hi R h => h ρ F σ H (rfP ρ) (rfX F) R⟩
def mBreak : MS := fun s => .bk s
def mCont : MS := fun s => .ct s
theorem rs_break : RS C X W i (.Break pos) mBreak := ⟨_, ps_break, fun B ρ F σ H s D hi R h => h ρ F σ H (rfP ρ) (rfX F) R⟩
theorem rs_continue : RS C X W i (.Continue pos) mCont := ⟨_, ps_continue, fun B ρ F σ H s D hi R h => h ρ F σ H (rfP ρ) (rfX F) R⟩
def mDrop (a : ME) : MS := fun s => (a s).thenS fun _ s' => .nx s'
theorem rs_expr {e : Expr} {m : ME} (he : RE C X W e m) (hs : swapsWith e none pos.line X.env = pure false := by rfl) : RS C X W i (.Expr e pos) (mDrop m) := by
  obtain ⟨ta, pa, ka⟩ := he
  refine ⟨_, ps_expr pa hs, fun B ρ F σ H s D hi R h => ka B ρ F σ H s _ R (h.bind fun d s1 _ ρ1 F1 H1 v _ _ R1 r1 h1 => ?_)⟩
  exact h1 ρ1 F1 σ H1 (rfP ρ1) (rfX F1) R1
/-! ### return -/
def mRet (a : ME) : MS := fun s => (a s).thenS fun d s' => if isSlot d = true then .err else .rt d s'
theorem rs_ret {e : Expr} {m : ME} (he : RE C X W e m) : RS C X W i (.Return (some e) pos) (mRet m) := by
  obtain ⟨ta, pa, ka⟩ := he
  refine ⟨_, ps_ret pa, fun B ρ F σ H s D hi R h => ka B ρ F σ H s _ R (h.bind fun d s1 _ ρ1 F1 H1 v _ _ R1 r1 h1 => ?_)⟩
  split at h1
  · exact h1.elim
  · next n => exact h1 ρ1 F1 σ H1 v (rfP ρ1) (rfX F1) R1 (r1.rep (by simpa using n))
def mRetN : MS := fun s => .rt .non s
theorem rs_retN : RS C X W i (.Return none pos) mRetN := ⟨_, ps_retN, fun B ρ F σ H s D hi R h => h ρ F σ H .non (rfP ρ) (rfX F) R rfl⟩
/-- what a slot owns is changed no more -/
def frzS (j : Nat) (s : S) : S := match s.env[j]? with
  | some (.ow d) => { s with env := s.env.set j (.fz d) }
  | _ => s
theorem Rel.frzS (R : Rel C B ρ F σ H s) (j : Nat) (he : B.ex = []) : ∃ F', Ex F F' ∧ Rel C B ρ F' σ H (ML.frzS j s) := by
  unfold ML.frzS
  split
  · next d e =>
    obtain ⟨F', a, x, R', _⟩ := R.frz e fun a _ => by rw [he]; exact List.not_mem_nil
    exact ⟨F', x, R'⟩
  · exact ⟨F, rfX F, R⟩
def mFrz (j : Nat) (m : MS) : MS := fun s => m (frzS j s)
theorem rss_frz (j : Nat) {sts : List Stmt} {m : MS} (h : RSs C X W false sts m) : RSs C X W false sts (mFrz j m) := by
  obtain ⟨t, p, k⟩ := h
  refine ⟨t, p, fun B ρ F σ H s D hi R h => ?_⟩
  obtain ⟨F', x, R'⟩ := R.frzS j (hi rfl)
  exact k B ρ F' σ H _ D hi R' (PostS.weak h (rfP ρ) x)
theorem rs_frz (j : Nat) {st : Stmt} {m : MS} (h : RS C X W false st m) : RS C X W false st (mFrz j m) := by
  obtain ⟨t, p, k⟩ := h
  refine ⟨t, p, fun B ρ F σ H s D hi R h => ?_⟩
  obtain ⟨F', x, R'⟩ := R.frzS j (hi rfl)
  exact k B ρ F' σ H _ D hi R' (PostS.weak h (rfP ρ) x)
/-! ### if -/
def mIf (t : MT) (a b : MS) : MS := fun s => (t s).thenS fun k s' => if k = true then a s' else b s'
theorem rs_if {c : Expr} {a b : List Stmt} {mt : MT} {ma mb : MS} (hc : RT C X W c mt) (ha : RSs C X W i a ma) (hb : RSs C X W i b mb) : RS C X W i (.If c a b pos) (mIf mt ma mb) := by
  obtain ⟨tc, pc, kc⟩ := hc
  obtain ⟨ta, pa, ka⟩ := ha
  obtain ⟨tb, pb, kb⟩ := hb
  refine ⟨_, ps_if pc pa pb, fun B ρ F σ H s D hi R h => kc B ρ F σ H s _ R (h.bind fun d s1 _ ρ1 F1 H1 v _ _ R1 r1 h1 => ?_)⟩
  cases (show v = d from r1)
  cases d with
  | true => exact ka B ρ1 F1 σ H1 s1 D hi R1 h1
  | false => exact kb B ρ1 F1 σ H1 s1 D hi R1 h1
/-! ### name = value -/
def setS (j : Nat) (x : Sl) (s : S) : S := { s with env := s.env.set j x }
def mSet (j : Nat) (a : ME) : MS := fun s => (a s).thenS fun d s' => if isSlot d = true then .err else .nx (setS j (.fz d) s')
theorem rs_set {j : Nat} {x : Str} {e : Expr} {m : ME} {pos' : Pos} (hN : X.N.Nodup) (hi : X.N[j]? = some x) (hx : Loc X.env.scope x) (he : RE C X W e m) (hs : swapsWith e (some (.Name x pos')) pos.line X.env = pure false := by rfl)
    (hf : X.fn x = true ∨ X.env.scope.names.lookup x = some .local := by first | exact .inl rfl | exact .inr rfl | assumption) : RS C X W i (.Assign [.Name x pos'] e pos) (mSet j m) := by
  obtain ⟨ta, pa, ka⟩ := he
  refine ⟨_, ps_set hN hi hx pa hs hf, fun B ρ F σ H s D hi R h => ka B ρ F σ H s _ R (h.bind fun d s1 _ ρ1 F1 H1 v _ _ R1 r1 h1 => ?_)⟩
  split at h1
  · exact h1.elim
  · next n => exact h1 ρ1 F1 _ H1 (rfP ρ1) (rfX F1) (R1.setFz (r1.rep (by simpa using n)))
/-- name = a new list: the slot owns it -/
def mSetOw (j : Nat) (a : ME) : MS := fun s => (a s).thenS fun d s' => .nx (setS j (.ow d) s')
theorem rs_setOw {j : Nat} {x : Str} {e : Expr} {m : ME} {pos' : Pos} (hN : X.N.Nodup) (hi : X.N[j]? = some x) (hx : Loc X.env.scope x) (he : RF C X W e m) (hs : swapsWith e (some (.Name x pos')) pos.line X.env = pure false := by rfl)
    (hf : X.fn x = true ∨ X.env.scope.names.lookup x = some .local := by first | exact .inl rfl | exact .inr rfl | assumption) : RS C X W i (.Assign [.Name x pos'] e pos) (mSetOw j m) := by
  obtain ⟨ta, pa, ka⟩ := he
  refine ⟨_, ps_set hN hi hx pa hs hf, fun B ρ F σ H s D hi R h => ka B ρ F σ H s _ R (h.bind fun d s1 _ ρ1 F1 H1 v _ _ R1 r1 h1 => ?_)⟩
  obtain ⟨p, o, rfl, l, ro, mo⟩ := r1
  exact h1 ρ1 F1 _ H1 (rfP ρ1) (rfX F1) (R1.adoptOw l ro mo)
/-- a new list as a cell -/
def mCell (a : ME) : ME := fun s => (a s).bind fun d s' => .ok (.cell s'.cs.length) { s' with cs := s'.cs ++ [d] }
theorem re_cell {e : Expr} {m : ME} (h : RF C X W e m) : RE C X W e (mCell m) := by
  obtain ⟨ta, pa, ka⟩ := h
  refine ⟨ta, pa, fun B ρ F σ H s Q R h => ka B ρ F σ H s _ R (h.bind fun d s1 _ ρ1 F1 H1 v _ _ R1 r1 h1 => ?_)⟩
  obtain ⟨p, o, rfl, l, ro, mo⟩ := r1
  obtain ⟨R2, at_⟩ := R1.adoptCell l ro mo
  exact h1.now (List.prefix_append _ _) (rfX F1) R2 ⟨p, rfl, at_⟩
/-! ### targets -/
/-- js: the slots that are stored -/
def RG (C : Ctx) (X : Cx) (tg : Expr) (js : List Nat) (g : D → S → Option S) : Prop :=
  ∃ t : TG, PG X tg t ∧ ∀ (B : Bs) (ρ : List Addr) (F : Hp) (σ : St) (H : Hp) (s s' : S) (d : D) (v : V) (Q : St → Hp → Prop), Rel C B ρ F σ H s → Rep C ρ F d v → g d s = some s' → (∀ σ', Rel C B ρ F σ' H s' → (σ'.length = σ.length ∧ ∀ j : Nat, j ∉ js → σ'[j]? = σ[j]?) → Q σ' H) → t v σ H Q
def RGs (C : Ctx) (X : Cx) (tg : List Expr) (js : List Nat) (g : List D → S → Option S) : Prop :=
  ∃ t : TGs, PGs X tg t ∧ ∀ (B : Bs) (ρ : List Addr) (F : Hp) (σ : St) (H : Hp) (s s' : S) (d : List D) (v : List V) (Q : St → Hp → Prop), Rel C B ρ F σ H s → RepL C ρ F d v → g d s = some s' → (∀ σ', Rel C B ρ F σ' H s' → (σ'.length = σ.length ∧ ∀ j : Nat, j ∉ js → σ'[j]? = σ[j]?) → Q σ' H) → t v σ H Q
def gNm (j : Nat) : D → S → Option S := fun d s => some (setS j (.fz d) s)
theorem rg_name {j : Nat} {x : Str} (hN : X.N.Nodup) (hi : X.N[j]? = some x) (hx : Loc X.env.scope x) (hf : X.fn x = true ∨ X.env.scope.names.lookup x = some .local := by first | exact .inl rfl | exact .inr rfl | assumption) : RG C X (.Name x pos) [j] (gNm j) := by
  refine ⟨_, pg_name hN hi hx hf, fun B ρ F σ H s s' d v Q R r e k => ?_⟩
  cases e
  refine k _ (R.setFz r) ⟨by simp, fun i hi => List.getElem?_set_ne fun z => hi ?_⟩
  rw [z]
  exact List.mem_singleton.mpr rfl
def gsNil : List D → S → Option S
  | [], s => some s
  | _, _ => none
def gsCons (g : D → S → Option S) (gs : List D → S → Option S) : List D → S → Option S
  | d :: ds, s => match g d s with
    | some s' => gs ds s'
    | none => none
  | _, _ => none
theorem rgs_nil : RGs C X [] [] gsNil := by
  refine ⟨_, pgs_nil, fun B ρ F σ H s s' d v Q R r e k => ?_⟩
  cases d with
  | nil => cases e; exact ⟨r, k σ R ⟨rfl, fun _ _ => rfl⟩⟩
  | cons _ _ => cases e
theorem rgs_cons {e : Expr} {es : List Expr} {js ks : List Nat} {g : D → S → Option S} {gs : List D → S → Option S} (h1 : RG C X e js g) (h2 : RGs C X es ks gs) (hs : (assignEach (e :: es) X.env).map (·.2) = assign e X.env :: (assignEach es X.env).map (·.2) := by rfl) : RGs C X (e :: es) (js ++ ks) (gsCons g gs) := by
  obtain ⟨t1, p1, k1⟩ := h1
  obtain ⟨t2, p2, k2⟩ := h2
  refine ⟨_, pgs_cons p1 p2 hs, fun B ρ F σ H s s' d v Q R r e k => ?_⟩
  cases d with
  | nil => cases e
  | cons d ds =>
    obtain ⟨v, vr, rfl, h, t⟩ := r
    simp only [gsCons] at e
    split at e
    · next s1 e1 => exact ⟨v, vr, rfl, k1 B ρ F σ H s s1 d v _ R h e1 fun σ1 R1 o1 => k2 B ρ F σ1 H s1 s' ds vr Q R1 t e fun σ2 R2 o2 => k σ2 R2 ⟨o2.1.trans o1.1, fun j hj => by
        rw [List.mem_append] at hj
        rw [o2.2 j fun z => hj (.inr z), o1.2 j fun z => hj (.inl z)]⟩⟩
    · cases e
def gTp (n : Nat) (gs : List D → S → Option S) : D → S → Option S
  | .tup ds, s => if ds.length = n then gs ds s else none
  | _, _ => none
theorem rg_tup {es : List Expr} {k n : Nat} {js : List Nat} {gs : List D → S → Option S} (hK : X.K = C.K) (hc : X.calm = true) (h : RGs C X es js gs) (hn : (assignEach es X.env).length = n := by rfl) (hst : (assignEach es X.env).findIdx? (·.1) = none := by rfl) : RG C X (.Tuple es k pos) js (gTp n gs) := by
  obtain ⟨t2, p2, k2⟩ := h
  refine ⟨_, pg_tup hc p2 hn hst, fun B ρ F σ H s s' d v Q R r e k => ?_⟩
  cases d with
  | tup ds =>
    obtain ⟨a, o, rfl, h1, vs, rfl, rr⟩ := r
    simp only [gTp] at e
    split at e
    · next hl => exact ⟨a, vs, rfl, SqT.of (R.sub _ _ h1), by rw [rr.length]; exact hl, k2 B ρ F σ H s s' ds vs Q R rr e k⟩
    · cases e
  | _ => cases e
/-- target = value -/
def mAsg (g : D → S → Option S) (a : ME) : MS := fun s => (a s).thenS fun d s' => if isSlot d = true then .err else match g d s' with
  | some s2 => .nx s2
  | none => .err
theorem rs_asg {tg e : Expr} {m : ME} {js : List Nat} {g : D → S → Option S} (he : RE C X W e m) (hg : RG C X tg js g) (hs : swapsWithSole [tg] e pos.line X.env = pure false := by rfl) (hw : swappedStores [tg] e X.env = pure none := by rfl)
    (h1 : (assignEach [tg] X.env).map (·.2) = [assign tg X.env] := by rfl) : RS C X W i (.Assign [tg] e pos) (mAsg g m) := by
  obtain ⟨ta, pa, ka⟩ := he
  obtain ⟨tg, pg, kg⟩ := hg
  refine ⟨_, ps_asg pa pg hs hw h1, fun B ρ F σ H s D hi R h => ka B ρ F σ H s _ R (h.bind fun d s1 _ ρ1 F1 H1 v _ _ R1 r1 h1 => ?_)⟩
  split at h1
  · exact h1.elim
  · next n =>
    split at h1
    · next s2 e2 => exact kg B ρ1 F1 σ H1 s1 s2 d v _ R1 (r1.rep (by simpa using n)) e2 fun σ' R' _ => h1 ρ1 F1 σ' H1 (rfP ρ1) (rfX F1) R'
    · exact h1.elim
/-! ### what is walked -/
/-- the items that come, in turn -/
structure WalkD (C : Ctx) (ρ : List Addr) (F : Hp) (J : It) (ds : List D) : Prop where
  w : Walk J ds.length (fun H => Ex F H) fun i H x H' => ∃ d, ds[i]? = some d ∧ ∀ F1, Ex F F1 → Ex F1 H → ∃ F2, Grow F1 H F2 H' ∧ Rep C ρ F2 d x
abbrev MI := S → R (List D)
def repI (C : Ctx) : List Addr → Hp → Hp → S → List D → It → Prop := fun ρ F _ _ ds J => WalkD C ρ F J ds
def RI (C : Ctx) (X : Cx) (W : WX) (tg iter : Expr) (m : MI) : Prop :=
  ∃ wi : TI, PI X tg iter wi ∧ ∀ (B : Bs) (ρ : List Addr) (F : Hp) (σ : St) (H : Hp) (s : S) (Q : It → Hp → Prop), Rel C B ρ F σ H s → Post C B W σ (repI C) ρ F (m s) Q → wi σ H Q
def forL (g : D → S → Option S) (b : MS) : List D → S → Fl
  | [], s => .nx s
  | d :: r, s => match g d s with
    | none => .err
    | some s1 => match b s1 with
      | .nx s2 => forL g b r s2
      | .ct s2 => forL g b r s2
      | .bk s2 => .nx s2
      | o => o
def mFor (m : MI) (g : D → S → Option S) (b : MS) : MS := fun s => (m s).thenS fun ds s' => forL g b ds s'
theorem rs_for {tg iter : Expr} {body : List Stmt} {mi : MI} {js : List Nat} {g : D → S → Option S} {b : MS} (hp : PassesOwn (model X.prog X.w) X.A X.env X.xe) (hc : X.calm = true) (hi : RI C X W tg iter mi) (hg : RG C X tg js g) (hb : RSs C X W i body b) (hs : ∀ x, foldedSetIterable iter X.env x = pure x := by intro _; rfl) :
    RS C X W i (.For tg iter body [] pos) (mFor mi g b) := by
  obtain ⟨ti, pi, ki⟩ := hi
  obtain ⟨tg, pg, kg⟩ := hg
  obtain ⟨tb, pb, kb⟩ := hb
  refine ⟨_, ps_for hp hc pi pg pb hs, fun B ρ F σ H s D hx R h => ki B ρ F σ H s _ R (h.bind fun ds s1 _ ρ1 F1 H1 J _ _ R1 r1 h1 => ?_)⟩
  have w := (show WalkD C ρ1 F1 J ds from r1).w
  refine for_it w (fun k σ H => ∃ ρ' F' s', ρ1 <+: ρ' ∧ Ex F1 F' ∧ Rel C B ρ' F' σ H s' ∧ PostS C B W ρ' F' (forL g b (ds.drop k) s') D) ⟨ρ1, F1, s1, rfP ρ1, rfX F1, R1, h1⟩ (fun k σ H _ ⟨ρ', F', s', _, x, R', _⟩ => x.trans R'.sub) ?_ ?_
  · rintro k x σ2 H2 H3 hk ⟨ρ', F', s', pr, xf, R', h'⟩ ⟨d, hd, hY⟩
    obtain ⟨F2, gr, rx⟩ := hY F' xf R'.sub
    rw [List.drop_eq_getElem_cons hk] at h'
    have ed : ds[k] = d := by
      rw [List.getElem?_eq_getElem hk] at hd
      exact Option.some.inj hd
    rw [ed] at h'
    unfold forL at h'
    have x2 := gr.exF R'.sub
    have R2 := R'.grow gr
    split at h'
    · exact h'.elim
    · next s2 e2 =>
      refine kg B ρ' F2 σ2 H3 s' s2 d x _ R2 (rx.mono pr (rfX F2)) e2 fun σ' R3 _ => ?_
      refine kb B ρ' F2 σ' H3 s2 _ hx R3 ?_
      have h' := PostS.weak h' (rfP ρ') x2
      cases q : b s2 with
      | nx s3 => rw [q] at h'; exact fun ρ4 F4 σ4 H4 p4 x4 R4 => ⟨ρ4, F4, s3, pr.trans p4, (xf.trans x2).trans x4, R4, PostS.weak h' p4 x4⟩
      | ct s3 => rw [q] at h'; exact fun ρ4 F4 σ4 H4 p4 x4 R4 => ⟨ρ4, F4, s3, pr.trans p4, (xf.trans x2).trans x4, R4, PostS.weak h' p4 x4⟩
      | bk s3 => rw [q] at h'; exact h'
      | rt d s3 => rw [q] at h'; exact h'
      | exc x s3 => rw [q] at h'; exact h'
      | err => rw [q] at h'; exact h'
  · rintro σ2 H2 ⟨ρ', F', s', pr, xf, R', h'⟩
    rw [List.drop_length] at h'
    exact h' ρ' F' σ2 H2 (rfP ρ') (rfX F') R'
/-! ### while -/
def whileN (c : MT) (b : MS) : Nat → S → Fl
  | 0, _ => .err
  | n + 1, s => (c s).thenS fun k s' => if k = true then match b s' with
      | .nx s2 => whileN c b n s2
      | .ct s2 => whileN c b n s2
      | .bk s2 => .nx s2
      | o => o
    else .nx s'
open Classical in
noncomputable def mWhile (c : MT) (b : MS) : MS := fun s => if h : ∃ n, whileN c b n s ≠ .err then whileN c b (Classical.choose h) s else .err
theorem rs_while {c : Expr} {body : List Stmt} {mc : MT} {b : MS} (hp : PassesOwn (model X.prog X.w) X.A X.env X.xe) (hc : RT C X W c mc) (hb : RSs C X W i body b) : RS C X W i (.While c body [] pos) (mWhile mc b) := by
  obtain ⟨tc, pc, kc⟩ := hc
  obtain ⟨tb, pb, kb⟩ := hb
  refine ⟨_, ps_while hp pc pb, fun B ρ F σ H s D hx R h => ?_⟩
  unfold mWhile at h
  split at h
  · next hn =>
    refine ⟨fun n σ H => ∃ ρ' F' s', Rel C B ρ' F' σ H s' ∧ PostS C B W ρ' F' (whileN mc b n s') D, ⟨_, ρ, F, s, R, h⟩, ?_⟩
    rintro n σ2 H2 ⟨ρ', F', s', R', h'⟩
    cases n with
    | zero => exact h'.elim
    | succ n =>
      unfold whileN at h'
      refine kc B ρ' F' σ2 H2 s' _ R' (h'.bind fun d s1 _ ρ1 F1 H1 v _ _ R1 r1 h1 => ?_)
      cases (show v = d from r1)
      cases d with
      | true =>
        rw [if_pos rfl] at h1 ⊢
        refine ⟨_, fun _ _ z => z, kb B ρ1 F1 σ2 H1 s1 _ hx R1 ?_⟩
        cases q : b s1 with
        | nx s3 => rw [q] at h1; exact fun ρ4 F4 σ4 H4 p4 x4 R4 => ⟨n, Nat.lt_succ_self _, ρ4, F4, s3, R4, PostS.weak h1 p4 x4⟩
        | ct s3 => rw [q] at h1; exact fun ρ4 F4 σ4 H4 p4 x4 R4 => ⟨n, Nat.lt_succ_self _, ρ4, F4, s3, R4, PostS.weak h1 p4 x4⟩
        | bk s3 => rw [q] at h1; exact h1
        | rt d s3 => rw [q] at h1; exact h1
        | exc x s3 => rw [q] at h1; exact h1
        | err => rw [q] at h1; exact h1
      | false =>
        rw [if_neg Bool.false_ne_true] at h1 ⊢
        exact h1 ρ1 F1 σ2 H1 (rfP ρ1) (rfX F1) R1
  · exact h.elim
end
end ML
end
section
set_option Elab.async false
set_option linter.all false
set_option maxRecDepth 100000
set_option autoImplicit false
/-! ML10: what is walked: lists, tuples, texts, ranges, enumerate, zip, reversed; list comprehensions. -/
namespace ML
open PySem PySem.Spec PyProof.Rows L2
section
variable {C : Ctx} {X : Cx} {W : WX} {pos : Pos} {B : Bs} {ρ : List Addr} {F : Hp} {σ : St} {H : Hp} {s : S}
theorem PI.or {tg iter : Expr} {w1 w2 : TI} (h1 : PI X tg iter w1) (h2 : PI X tg iter w2) : PI X tg iter (fun σ H R => w1 σ H R ∨ w2 σ H R) :=
  ⟨fun pins s σ H R I h => h.elim (fun h => h1.run pins s σ H R I h) (fun h => h2.run pins s σ H R I h)⟩
theorem walkD_list {K : PySem.W.Frag} {a : Addr} {ds : List D} {vs : List V} (h : F a = some (.lst vs)) (r : RepL C ρ F ds vs) : WalkD C ρ F (Itl K a) ds := by
  refine ⟨?_⟩
  have w := (walk_list (K := K) (a := a) (xs := vs)).mono (G' := fun H => Ex F H) (Y' := fun i H x H' => ∃ d, ds[i]? = some d ∧ ∀ F1, Ex F F1 → Ex F1 H → ∃ F2, Grow F1 H F2 H' ∧ Rep C ρ F2 d x) (fun H e => SqL.of (e _ _ h)) (fun i H x H' hi e y => ?_)
  · rw [← r.length]; exact w
  · obtain ⟨rfl, hx⟩ := y
    have hl : i < ds.length := by rw [← r.length]; exact hi
    obtain ⟨v, e1, rv⟩ := r.get (List.getElem?_eq_getElem hl)
    rw [hx] at e1
    cases e1
    exact ⟨_, List.getElem?_eq_getElem hl, fun F1 x1 _ => ⟨F1, .refl, rv.mono (rfP ρ) x1⟩⟩
theorem walkD_tup {K : PySem.W.Frag} {a : Addr} {ds : List D} {vs : List V} (h : F a = some (.tup vs)) (r : RepL C ρ F ds vs) : WalkD C ρ F (Itt K a) ds := by
  refine ⟨?_⟩
  have w := (walk_tup (K := K) (a := a) (xs := vs)).mono (G' := fun H => Ex F H) (Y' := fun i H x H' => ∃ d, ds[i]? = some d ∧ ∀ F1, Ex F F1 → Ex F1 H → ∃ F2, Grow F1 H F2 H' ∧ Rep C ρ F2 d x) (fun H e => SqT.of (e _ _ h)) (fun i H x H' hi e y => ?_)
  · rw [← r.length]; exact w
  · obtain ⟨rfl, hx⟩ := y
    have hl : i < ds.length := by rw [← r.length]; exact hi
    obtain ⟨v, e1, rv⟩ := r.get (List.getElem?_eq_getElem hl)
    rw [hx] at e1
    cases e1
    exact ⟨_, List.getElem?_eq_getElem hl, fun F1 x1 _ => ⟨F1, .refl, rv.mono (rfP ρ) x1⟩⟩
def signsD (x : Str) : List D := x.cps.toList.map fun c => .str ⟨#[c]⟩
theorem walkD_str {x : Str} : WalkD C ρ F (Its x) (signsD x) := by
  refine ⟨?_⟩
  have w := (walk_str (z := x)).mono (G' := fun H => Ex F H) (Y' := fun i H v H' => ∃ d, (signsD x)[i]? = some d ∧ ∀ F1, Ex F F1 → Ex F1 H → ∃ F2, Grow F1 H F2 H' ∧ Rep C ρ F2 d v) (fun H e => trivial) (fun i H v H' hi e y => ?_)
  · have : (signsD x).length = x.cps.size := by simp [signsD]
    rw [this]; exact w
  · obtain ⟨rfl, c, hc, rfl⟩ := y
    refine ⟨.str ⟨#[c]⟩, ?_, fun F1 x1 _ => ⟨F1, .refl, rfl⟩⟩
    simp only [signsD, List.getElem?_map, Array.getElem?_toList, hc]
    rfl
def mIter (a : ME) : MI := fun s => (a s).bind fun d s' => match d with
  | .lst ds => .ok ds s'
  | .tup ds => .ok ds s'
  | .str x => .ok (signsD x) s'
  | _ => .err
theorem ri_iter {tg e : Expr} {m : ME} (he : RE C X W e m) : RI C X W tg e (mIter m) := by
  obtain ⟨ta, pa, ka⟩ := he
  refine ⟨_, PI.or (pi_list pa) (PI.or (pi_tup pa) (pi_str pa)), fun B ρ F σ H s Q R h => ?_⟩
  cases q : m s with
  | ok d s1 =>
    have h0 := h
    unfold mIter at h0
    rw [q] at h0
    cases d with
    | lst ds =>
      refine .inl (ka B ρ F σ H s _ R (h.bind fun d s2 e ρ1 F1 H1 v _ _ R1 r1 h1 => ?_))
      rw [q] at e
      cases e
      obtain ⟨a, o, rfl, g1, vs, rfl, r⟩ := r1
      exact ⟨a, rfl, ⟨vs, SqL.of (R1.sub _ _ g1)⟩, h1.now (rfP ρ1) (rfX F1) R1 (walkD_list g1 r)⟩
    | tup ds =>
      refine .inr (.inl (ka B ρ F σ H s _ R (h.bind fun d s2 e ρ1 F1 H1 v _ _ R1 r1 h1 => ?_)))
      rw [q] at e
      cases e
      obtain ⟨a, o, rfl, g1, vs, rfl, r⟩ := r1
      exact ⟨a, rfl, ⟨vs, SqT.of (R1.sub _ _ g1)⟩, h1.now (rfP ρ1) (rfX F1) R1 (walkD_tup g1 r)⟩
    | str x =>
      refine .inr (.inr (ka B ρ F σ H s _ R (h.bind fun d s2 e ρ1 F1 H1 v _ _ R1 r1 h1 => ?_)))
      rw [q] at e
      cases e
      exact ⟨x, r1, h1.now (rfP ρ1) (rfX F1) R1 walkD_str⟩
    | _ => exact h0.elim
  | exc x s1 =>
    refine .inl (ka B ρ F σ H s _ R (h.bind fun d s2 e ρ1 F1 H1 v _ _ R1 r1 h1 => ?_))
    rw [q] at e
    cases e
  | err =>
    unfold mIter at h
    rw [q] at h
    exact h.elim
/-! ### ranges -/
def rangeD (lo : Int) (n : Nat) : List D := (List.range n).map fun k => .int (lo + (k : Nat))
theorem walkD_range {lo : Int} {n : Nat} : WalkD C ρ F (Itr lo n) (rangeD lo n) := by
  refine ⟨?_⟩
  have w := (walk_range (lo := lo) (n := n)).mono (G' := fun H => Ex F H) (Y' := fun i H v H' => ∃ d, (rangeD lo n)[i]? = some d ∧ ∀ F1, Ex F F1 → Ex F1 H → ∃ F2, Grow F1 H F2 H' ∧ Rep C ρ F2 d v) (fun H e => trivial) (fun i H v H' hi e y => ?_)
  · have : (rangeD lo n).length = n := by simp [rangeD]
    rw [this]; exact w
  · obtain ⟨rfl, rfl⟩ := y
    refine ⟨.int (lo + i), ?_, fun F1 x1 _ => ⟨F1, .refl, rfl⟩⟩
    simp [rangeD, hi]
noncomputable def mRange1 (ma : MA) : MI := fun s => (ma s).bind fun ds s' => match ds with
  | [.int j] => if ok62 j then .ok (rangeD 0 j.toNat) s' else .err
  | _ => .err
noncomputable def mRange2 (ma : MA) : MI := fun s => (ma s).bind fun ds s' => match ds with
  | [.int i, .int j] => if ok62 i ∧ ok62 j then .ok (rangeD i (j - i).toNat) s' else .err
  | _ => .err
theorem ri_range1 {tg a : Expr} {ma : MA} {p : Pos} (hg : Gl X "range") (hm : X.mg "range" = none) (ha : RA C X W [a] ma) (hs : starEach [a] X.env = [(false, eval a X.env)] := by rfl) : RI C X W tg (.Call (.Name "range" p) [a] [] pos) (mRange1 ma) := by
  obtain ⟨ta, pa, ka⟩ := ha
  refine ⟨_, pi_range1 hg hm pa hs, fun B ρ F σ H s Q R h => ka B ρ F σ H s _ R (h.bind fun ds s1 _ ρ1 F1 H1 v _ _ R1 r1 h1 => ?_)⟩
  split at h1
  · split at h1
    · next hj =>
      obtain ⟨v1, r, rfl, rv, rr⟩ := r1
      cases (show r = [] from rr)
      obtain rfl : v1 = V.int _ := rv
      exact ⟨_, rfl, hj.1, hj.2, h1.now (rfP ρ1) (rfX F1) R1 walkD_range⟩
    · exact h1.elim
  · exact h1.elim
theorem ri_range2 {tg a b : Expr} {ma : MA} {p : Pos} (hg : Gl X "range") (hm : X.mg "range" = none) (ha : RA C X W [a, b] ma) (hs : starEach [a, b] X.env = [(false, eval a X.env), (false, eval b X.env)] := by rfl)
    (hs2 : starEach [b] X.env = [(false, eval b X.env)] := by rfl) : RI C X W tg (.Call (.Name "range" p) [a, b] [] pos) (mRange2 ma) := by
  obtain ⟨ta, pa, ka⟩ := ha
  refine ⟨_, pi_range2 hg hm pa hs hs2, fun B ρ F σ H s Q R h => ka B ρ F σ H s _ R (h.bind fun ds s1 _ ρ1 F1 H1 v _ _ R1 r1 h1 => ?_)⟩
  split at h1
  · split at h1
    · next hj =>
      obtain ⟨v1, r, rfl, rv, v2, r2, rfl, rv2, rr⟩ := r1
      cases (show r2 = [] from rr)
      obtain rfl : v1 = V.int _ := rv
      obtain rfl : v2 = V.int _ := rv2
      exact ⟨_, _, rfl, ⟨hj.1.1, hj.1.2, hj.2.1, hj.2.2⟩, h1.now (rfP ρ1) (rfX F1) R1 walkD_range⟩
    · exact h1.elim
  · exact h1.elim
/-! ### enumerate, zip, reversed: of lists -/
def enumD (k : Nat) : List D → List D
  | [] => []
  | d :: ds => .tup [.int (k : Nat), d] :: enumD (k + 1) ds
theorem enumD_get : ∀ (ds : List D) (k i : Nat) (d : D), ds[i]? = some d → (enumD k ds)[i]? = some (.tup [.int ((k + i : Nat) : Nat), d])
  | [], _, _, _, h => by simp at h
  | d :: ds, k, 0, _, h => by simp at h; subst h; simp [enumD]
  | d :: ds, k, i + 1, _, h => by
    have := enumD_get ds (k + 1) i _ (by simpa using h)
    simp only [enumD, List.getElem?_cons_succ]
    rw [this, show k + 1 + i = k + (i + 1) by omega]
theorem enumD_length : ∀ (ds : List D) (k : Nat), (enumD k ds).length = ds.length
  | [], _ => rfl
  | _ :: ds, k => by simp [enumD, enumD_length ds]
theorem rep_pair {F1 : Hp} {T : Addr} {d1 d2 : D} {v1 v2 : V} (h : F1 T = none) (r1 : Rep C ρ F1 d1 v1) (r2 : Rep C ρ F1 d2 v2) : Rep C ρ (upd F1 T (.tup [v1, v2])) (.tup [d1, d2]) (.ref T) := rep_newT h ⟨v1, [v2], rfl, r1, v2, [], rfl, r2, rfl⟩
theorem walkD_enum {K : PySem.W.Frag} {a : Addr} {ds : List D} {vs : List V} (h : F a = some (.lst vs)) (r : RepL C ρ F ds vs) : WalkD C ρ F (Ite K a) (enumD 0 ds) := by
  refine ⟨?_⟩
  have w := (walk_enum (K := K) (a := a) (xs := vs)).mono (G' := fun H => Ex F H) (Y' := fun i H x H' => ∃ d, (enumD 0 ds)[i]? = some d ∧ ∀ F1, Ex F F1 → Ex F1 H → ∃ F2, Grow F1 H F2 H' ∧ Rep C ρ F2 d x) (fun H e => SqL.of (e _ _ h)) (fun i H x H' hi e y => ?_)
  · rw [enumD_length, ← r.length]; exact w
  · obtain ⟨T, x1, x2, rfl, hT, rfl, e1, e2⟩ := y
    cases e1
    have hl : i < ds.length := by rw [← r.length]; exact hi
    obtain ⟨v, e3, rv⟩ := r.get (List.getElem?_eq_getElem hl)
    have e2 : vs[i]? = some x2 := e2
    rw [e2] at e3
    cases e3
    refine ⟨_, enumD_get ds 0 i _ (List.getElem?_eq_getElem hl), fun F1 x1 x3 => ⟨_, Grow.one hT, ?_⟩⟩
    rw [Nat.zero_add]
    exact rep_pair (x3.back hT) rfl (rv.mono (rfP ρ) x1)
def mEnum (ma : MA) : MI := fun s => (ma s).bind fun ds s' => match ds with
  | [.lst ds] => .ok (enumD 0 ds) s'
  | _ => .err
theorem ri_enum {e : Expr} {ma : MA} {p tpos : Pos} {elts : List Expr} {kk : Nat} (hK : X.K = C.K) (hg : Gl X "enumerate") (hm : X.mg "enumerate" = none) (ha : RA C X W [e] ma) (hs : starEach [e] X.env = [(false, eval e X.env)] := by rfl) :
    RI C X W (.Tuple elts kk tpos) (.Call (.Name "enumerate" p) [e] [] pos) (mEnum ma) := by
  obtain ⟨ta, pa, ka⟩ := ha
  refine ⟨_, pi_enum hg hm pa hs, fun B ρ F σ H s Q R h => ka B ρ F σ H s _ R (h.bind fun ds s1 _ ρ1 F1 H1 v _ _ R1 r1 h1 => ?_)⟩
  split at h1
  · next ds =>
    obtain ⟨v1, r, rfl, rv, rr⟩ := r1
    cases (show r = [] from rr)
    obtain ⟨a, o, rfl, g1, vs, rfl, r⟩ := rv
    exact ⟨a, vs, rfl, SqL.of (R1.sub _ _ g1), h1.now (rfP ρ1) (rfX F1) R1 (walkD_enum g1 r)⟩
  · exact h1.elim
def zipD : List D → List D → List D
  | d :: ds, e :: es => .tup [d, e] :: zipD ds es
  | _, _ => []
theorem zipD_get : ∀ (ds es : List D) (i : Nat) (d e : D), ds[i]? = some d → es[i]? = some e → (zipD ds es)[i]? = some (.tup [d, e])
  | [], _, _, _, _, h, _ => by simp at h
  | _ :: _, [], _, _, _, _, h => by simp at h
  | d :: ds, e :: es, 0, _, _, h, h' => by simp at h h'; subst h h'; simp [zipD]
  | d :: ds, e :: es, i + 1, _, _, h, h' => by
    simp only [zipD, List.getElem?_cons_succ]
    exact zipD_get ds es i _ _ (by simpa using h) (by simpa using h')
theorem zipD_length : ∀ (ds es : List D), (zipD ds es).length = min ds.length es.length
  | [], _ => by simp [zipD]
  | _ :: _, [] => by simp [zipD]
  | _ :: ds, _ :: es => by simp [zipD, zipD_length ds es]
theorem walkD_zip {K : PySem.W.Frag} {a b : Addr} {ds es : List D} {vs ws : List V} (h : F a = some (.lst vs)) (r : RepL C ρ F ds vs) (h' : F b = some (.lst ws)) (r' : RepL C ρ F es ws) : WalkD C ρ F (Itz K a b) (zipD ds es) := by
  refine ⟨?_⟩
  have w := (walk_zip (K := K) (a := a) (b := b) (xs := vs) (ys := ws) rfl).mono (G' := fun H => Ex F H) (Y' := fun i H x H' => ∃ d, (zipD ds es)[i]? = some d ∧ ∀ F1, Ex F F1 → Ex F1 H → ∃ F2, Grow F1 H F2 H' ∧ Rep C ρ F2 d x) (fun H e => ⟨SqL.of (e _ _ h), SqL.of (e _ _ h')⟩) (fun i H x H' hi e y => ?_)
  · rw [zipD_length, ← r.length, ← r'.length]; exact w
  · obtain ⟨T, x1, x2, rfl, hT, rfl, e1, e2⟩ := y
    have hl : i < ds.length := by rw [← r.length]; omega
    have hl' : i < es.length := by rw [← r'.length]; omega
    obtain ⟨v, e3, rv⟩ := r.get (List.getElem?_eq_getElem hl)
    obtain ⟨v', e4, rv'⟩ := r'.get (List.getElem?_eq_getElem hl')
    have e1 : vs[i]? = some x1 := e1
    have e2 : ws[i]? = some x2 := e2
    rw [e1] at e3
    cases e3
    rw [e2] at e4
    cases e4
    exact ⟨_, zipD_get ds es i _ _ (List.getElem?_eq_getElem hl) (List.getElem?_eq_getElem hl'), fun F1 x1 x3 => ⟨_, Grow.one hT, rep_pair (x3.back hT) (rv.mono (rfP ρ) x1) (rv'.mono (rfP ρ) x1)⟩⟩
def mZip (ma : MA) : MI := fun s => (ma s).bind fun ds s' => match ds with
  | [.lst ds, .lst es] => .ok (zipD ds es) s'
  | _ => .err
theorem ri_zip {e e2 : Expr} {ma : MA} {p tpos : Pos} {elts : List Expr} {kk : Nat} (hg : Gl X "zip") (hm : X.mg "zip" = none) (ha : RA C X W [e, e2] ma) (hs : starEach [e, e2] X.env = (false, eval e X.env) :: starEach [e2] X.env := by rfl) (hpl : (backTo pos (starEach [e2] X.env)).any (·.1) = false := by rfl) :
    RI C X W (.Tuple elts kk tpos) (.Call (.Name "zip" p) [e, e2] [] pos) (mZip ma) := by
  obtain ⟨ta, pa, ka⟩ := ha
  refine ⟨_, pi_zip hg hm pa hs hpl, fun B ρ F σ H s Q R h => ka B ρ F σ H s _ R (h.bind fun ds s1 _ ρ1 F1 H1 v _ _ R1 r1 h1 => ?_)⟩
  split at h1
  · next ds es =>
    obtain ⟨v1, r, rfl, rv, v2, r2, rfl, rv2, rr⟩ := r1
    cases (show r2 = [] from rr)
    obtain ⟨a, o, rfl, g1, vs, rfl, r⟩ := rv
    obtain ⟨b, o, rfl, g2, ws, rfl, r2⟩ := rv2
    exact ⟨a, b, vs, ws, rfl, SqL.of (R1.sub _ _ g1), SqL.of (R1.sub _ _ g2), h1.now (rfP ρ1) (rfX F1) R1 (walkD_zip g1 r g2 r2)⟩
  · exact h1.elim
theorem walkD_rev {K : PySem.W.Frag} {a : Addr} {ds : List D} {vs : List V} (h : F a = some (.lst vs)) (r : RepL C ρ F ds vs) : WalkD C ρ F (Itv K a vs.length) ds.reverse := by
  refine ⟨?_⟩
  have w := (walk_rev (K := K) (a := a) (xs := vs)).mono (G' := fun H => Ex F H) (Y' := fun i H x H' => ∃ d, ds.reverse[i]? = some d ∧ ∀ F1, Ex F F1 → Ex F1 H → ∃ F2, Grow F1 H F2 H' ∧ Rep C ρ F2 d x) (fun H e => SqL.of (e _ _ h)) (fun i H x H' hi e y => ?_)
  · rw [List.length_reverse, ← r.length]; exact w
  · obtain ⟨rfl, hx⟩ := y
    have hl : i < ds.length := by rw [← r.length]; exact hi
    have hl2 : vs.length - 1 - i < ds.length := by rw [r.length]; omega
    obtain ⟨v, e1, rv⟩ := r.get (List.getElem?_eq_getElem hl2)
    rw [hx] at e1
    cases e1
    refine ⟨ds[vs.length - 1 - i], ?_, fun F1 x1 _ => ⟨F1, .refl, rv.mono (rfP ρ) x1⟩⟩
    rw [List.getElem?_reverse hl, ← r.length]
    exact List.getElem?_eq_getElem hl2
def mRev (ma : MA) : MI := fun s => (ma s).bind fun ds s' => match ds with
  | [.lst ds] => .ok ds.reverse s'
  | _ => .err
theorem ri_rev {tg e : Expr} {ma : MA} {p : Pos} (hg : Gl X "reversed") (hm : X.mg "reversed" = none) (ha : RA C X W [e] ma) (hs : starEach [e] X.env = [(false, eval e X.env)] := by rfl) :
    RI C X W tg (.Call (.Name "reversed" p) [e] [] pos) (mRev ma) := by
  obtain ⟨ta, pa, ka⟩ := ha
  refine ⟨_, pi_reversed hg hm pa hs, fun B ρ F σ H s Q R h => ka B ρ F σ H s _ R (h.bind fun ds s1 _ ρ1 F1 H1 v _ _ R1 r1 h1 => ?_)⟩
  split at h1
  · next ds =>
    obtain ⟨v1, r, rfl, rv, rr⟩ := r1
    cases (show r = [] from rr)
    obtain ⟨a, o, rfl, g1, vs, rfl, r⟩ := rv
    exact ⟨a, vs, rfl, SqL.of (R1.sub _ _ g1), h1.now (rfP ρ1) (rfX F1) R1 (walkD_rev g1 r)⟩
  · exact h1.elim
/-! ### list comprehensions -/
def wipeS (vs : List Nat) (s : S) : S := { s with env := vs.foldr (fun v e => e.set v .no) s.env }
theorem wipe_env_len (vs : List Nat) (e : List Sl) : (vs.foldr (fun v e => e.set v .no) e).length = e.length := by
  induction vs with
  | nil => rfl
  | cons v vs ih => simp [List.foldr_cons, ih]
theorem wipe_env_get (vs : List Nat) (e : List Sl) (i : Nat) (x : Sl) (h : (vs.foldr (fun v e => e.set v .no) e)[i]? = some x) (hx : x ≠ .no) : e[i]? = some x ∧ i ∉ vs := by
  induction vs with
  | nil => exact ⟨h, List.not_mem_nil⟩
  | cons v vs ih =>
    rw [List.foldr_cons] at h
    rcases set_some h with ⟨_, z, _⟩ | ⟨ne, h⟩
    · exact absurd z.symm hx
    · obtain ⟨h1, h2⟩ := ih h
      refine ⟨h1, fun z => ?_⟩
      rcases List.mem_cons.mp z with z | z
      · exact ne z.symm
      · exact h2 z
theorem wipe_get {σ : St} {vs : List Nat} {i : Nat} (h : i ∉ vs) : (wipe σ vs)[i]? = σ[i]? := by
  induction vs with
  | nil => rfl
  | cons v vs ih =>
    unfold wipe
    rw [List.getElem?_set_ne (fun z => h (by rw [z]; exact List.mem_cons_self))]
    exact ih fun z => h (List.mem_cons_of_mem _ z)
theorem Rel.wiped (R : Rel C B ρ F σ H s) (vs : List Nat) : Rel C B ρ F (wipe σ vs) H (wipeS vs s) := by
  refine R.drop (by rw [wipe_length, wipe_env_len, R.len]) fun i x e hx => ?_
  obtain ⟨h1, h2⟩ := wipe_env_get vs s.env i x e hx
  exact ⟨h1, wipe_get h2⟩
/-- the slots at vs as they were -/
def backE (vs : List Nat) (e0 e : List Sl) : List Sl := vs.foldr (fun v e => e.set v (match e0[v]? with
  | some (Sl.fz d) => Sl.fz d
  | _ => Sl.no)) e
def backS (vs : List Nat) (s0 s : S) : S := { s with env := backE vs s0.env s.env }
end
end ML
end
section
set_option Elab.async false
set_option linter.all false
set_option maxRecDepth 100000
set_option autoImplicit false
/-! ML11: list comprehensions. -/
namespace ML
open PySem PySem.Spec PyProof.Rows L2
abbrev W0 : WX := fun _ _ _ _ => False
theorem RE.uni {ι : Type} {C : Ctx} {X : ι → Cx} {W : WX} {e : Expr} {m : ME} (h : ∀ z, RE C (X z) W e m) :
    ∃ t : TE, (∀ z, PE (X z) e t) ∧ ∀ (B : Bs) (ρ : List Addr) (F : Hp) (σ : St) (H : Hp) (s : S) (Q : VK), Rel C B ρ F σ H s → Post C B W σ (repE C σ) ρ F (m s) Q → t σ H Q := by
  refine ⟨fun σ H Q => ∃ B ρ F s, Rel C B ρ F σ H s ∧ Post C B W σ (repE C σ) ρ F (m s) Q, fun z => ?_, fun B ρ F σ H s Q R h => ⟨B, ρ, F, s, R, h⟩⟩
  obtain ⟨t, p, k⟩ := h z
  exact ⟨fun pins s σ H Q I ⟨B, ρ, F, s', R, q⟩ => p.run pins s σ H Q I (k B ρ F σ H s' Q R q)⟩
/-- a clause's tests -/
def RTs (C : Ctx) (X : Cx) (W : WX) (es : List Expr) (m : MT) : Prop :=
  ∃ t : TT, PTs X es t ∧ ∀ (B : Bs) (ρ : List Addr) (F : Hp) (σ : St) (H : Hp) (s : S) (Q : Bool → Hp → Prop), Rel C B ρ F σ H s → Post C B W σ repT ρ F (m s) Q → t σ H Q
def mYes : MT := fun s => .ok true s
theorem rts_nil {C : Ctx} {X : Cx} {W : WX} : RTs C X W [] mYes := ⟨_, pts_nil, fun B ρ F σ H s Q R h => h.now (rfP ρ) (rfX F) R rfl⟩
theorem rts_one {C : Ctx} {X : Cx} {W : WX} {e : Expr} {m : MT} (h : RT C X W e m) : RTs C X W [e] m := by
  obtain ⟨t, p, k⟩ := h
  exact ⟨_, pts_one p, k⟩
theorem RTs.uni {ι : Type} {C : Ctx} {X : ι → Cx} {W : WX} {e : List Expr} {m : MT} (h : ∀ z, RTs C (X z) W e m) :
    ∃ t : TT, (∀ z, PTs (X z) e t) ∧ ∀ (B : Bs) (ρ : List Addr) (F : Hp) (σ : St) (H : Hp) (s : S) (Q : Bool → Hp → Prop), Rel C B ρ F σ H s → Post C B W σ repT ρ F (m s) Q → t σ H Q := by
  refine ⟨fun σ H Q => ∃ B ρ F s, Rel C B ρ F σ H s ∧ Post C B W σ repT ρ F (m s) Q, fun z => ?_, fun B ρ F σ H s Q R h => ⟨B, ρ, F, s, R, h⟩⟩
  obtain ⟨t, p, k⟩ := h z
  exact ⟨fun pins s σ H Q I ⟨B, ρ, F, s', R, q⟩ => p.run pins s σ H Q I (k B ρ F σ H s' Q R q)⟩
theorem RG.uni {ι : Type} {C : Ctx} {X : ι → Cx} {e : Expr} {js : List Nat} {g : D → S → Option S} (h : ∀ z, RG C (X z) e js g) :
    ∃ t : TG, (∀ z, PG (X z) e t) ∧ ∀ (B : Bs) (ρ : List Addr) (F : Hp) (σ : St) (H : Hp) (s s' : S) (d : D) (v : V) (Q : St → Hp → Prop), Rel C B ρ F σ H s → Rep C ρ F d v → g d s = some s' → (∀ σ', Rel C B ρ F σ' H s' → (σ'.length = σ.length ∧ ∀ j : Nat, j ∉ js → σ'[j]? = σ[j]?) → Q σ' H) → t v σ H Q := by
  refine ⟨fun v σ H Q => ∃ B ρ F s s' d, Rel C B ρ F σ H s ∧ Rep C ρ F d v ∧ g d s = some s' ∧ ∀ σ', Rel C B ρ F σ' H s' → (σ'.length = σ.length ∧ ∀ j : Nat, j ∉ js → σ'[j]? = σ[j]?) → Q σ' H, fun z => ?_, fun B ρ F σ H s s' d v Q R r e k => ⟨B, ρ, F, s, s', d, R, r, e, k⟩⟩
  obtain ⟨t, p, k⟩ := h z
  exact ⟨fun pins s σ H v u Q I rv ⟨B, ρ, F, s1, s', d, R, r, e, k'⟩ => p.run pins s σ H v u Q I rv (k B ρ F σ H s1 s' d v Q R r e k')⟩
section
variable {C : Ctx} {X : Cx} {W : WX} {pos : Pos} {B : Bs} {ρ ρ' : List Addr} {F F' : Hp} {σ : St} {H H' : Hp} {s : S}
theorem back_get (vs : List Nat) (e0 e : List Sl) (i : Nat) (x : Sl) (h : (backE vs e0 e)[i]? = some x) : (i ∈ vs ∧ ((∃ d, x = .fz d ∧ e0[i]? = some (.fz d)) ∨ x = .no)) ∨ (i ∉ vs ∧ e[i]? = some x) := by
  induction vs with
  | nil => exact .inr ⟨List.not_mem_nil, h⟩
  | cons v vs ih =>
    have h : ((backE vs e0 e).set v (match e0[v]? with
      | some (Sl.fz d) => Sl.fz d
      | _ => Sl.no))[i]? = some x := h
    rcases set_some h with ⟨rfl, z, _⟩ | ⟨ne, h⟩
    · refine .inl ⟨List.mem_cons_self, ?_⟩
      split at z
      · next d hd => exact .inl ⟨d, z.symm, hd⟩
      · exact .inr z.symm
    · rcases ih h with ⟨h1, h2⟩ | ⟨h1, h2⟩
      · exact .inl ⟨List.mem_cons_of_mem _ h1, h2⟩
      · refine .inr ⟨fun z => ?_, h2⟩
        rcases List.mem_cons.mp z with z | z
        · exact ne z.symm
        · exact h1 z
theorem back_len (vs : List Nat) (e0 e : List Sl) : (backE vs e0 e).length = e.length := by
  induction vs with
  | nil => rfl
  | cons v vs ih =>
    show ((backE vs e0 e).set v _).length = e.length
    rw [List.length_set, ih]
theorem Rel.unwipe {s1 s' : S} {H1 : Hp} (R1 : Rel C B ρ F σ H1 s1) {vs : List Nat} (R : Rel C B ρ' F' (wipe σ vs) H s') (pr : ρ <+: ρ') (xf : Ex F F') : Rel C B ρ' F' σ H (backS vs s1 s') := by
  refine ⟨R.sub, ?_, fun i d e => ?_, fun i d e => ?_, R.cl, R.cr, R.nd, R.pre, R.new, R.kept, R.there, R.f0, R.ff⟩
  · have := R.len
    rw [wipe_length] at this
    show σ.length = (backE vs s1.env s'.env).length
    rw [back_len, this]
  · rcases back_get vs _ _ i _ e with ⟨_, ⟨d', z, e2⟩ | z⟩ | ⟨h1, e2⟩
    · cases z
      obtain ⟨v, g1, g2⟩ := R1.fz i d e2
      exact ⟨v, g1, g2.mono pr xf⟩
    · cases z
    · obtain ⟨v, g1, g2⟩ := R.fz i d e2
      rw [wipe_get h1] at g1
      exact ⟨v, g1, g2⟩
  · rcases back_get vs _ _ i _ e with ⟨_, ⟨d', z, e2⟩ | z⟩ | ⟨h1, e2⟩
    · cases z
    · cases z
    · obtain ⟨a, o, g1, g2, g3, g4, g5, g6, g7, g8⟩ := R.ow i d e2
      rw [wipe_get h1] at g1
      refine ⟨a, o, g1, g2, g3, g4, g5, g6, g7, fun j d' hj e3 => ?_⟩
      rcases back_get vs _ _ j _ e3 with ⟨_, ⟨d2, z, _⟩ | z⟩ | ⟨h2, e4⟩
      · cases z
      · cases z
      · have := g8 j d' hj e4
        rw [wipe_get h2] at this
        exact this
theorem Loose.unwipe {s1 s' : S} {vs : List Nat} {p : Addr} {o : HO} (l : Loose B ρ F (wipe σ vs) H s' p o) : Loose B ρ F σ H (backS vs s1 s') p o := by
  refine ⟨l.f, l.h0, l.h, l.r, fun i d e z => ?_⟩
  rcases back_get vs _ _ i _ e with ⟨_, ⟨d', z', _⟩ | z'⟩ | ⟨h1, e2⟩
  · cases z'
  · cases z'
  · exact l.sl i d e2 (by rw [wipe_get h1]; exact z)
theorem Loose.wiped {vs : List Nat} {p : Addr} {o : HO} (l : Loose B ρ F σ H s p o) : Loose B ρ F (wipe σ vs) H (wipeS vs s) p o := by
  refine ⟨l.f, l.h0, l.h, l.r, fun i d e z => ?_⟩
  obtain ⟨h1, h2⟩ := wipe_env_get vs s.env i _ e (by intro z; cases z)
  exact l.sl i d h1 (by rw [wipe_get h2] at z; exact z)
theorem Loose.grow {F2 H2 : Hp} {p : Addr} {o : HO} (g : Grow F H F2 H2) : Loose B ρ F σ H s p o → Loose B ρ F2 σ H2 s p o := by
  induction g with
  | refl => exact id
  | lay h _ ih =>
    intro l
    have ne : p ≠ _ := ne_of_none l.h h
    exact ih ⟨by rw [upd_ne ne]; exact l.f, l.h0, by rw [upd_ne ne]; exact l.h, l.r, l.sl⟩
theorem wipe_ext {σ' : St} {vs : List Nat} (hl : σ'.length = σ.length) (h : ∀ j : Nat, j ∉ vs → σ'[j]? = σ[j]?) : wipe σ' vs = wipe σ vs := by
  apply List.ext_getElem?
  intro i
  by_cases hi : i ∈ vs
  · have g : ∀ τ : St, i < τ.length → (wipe τ vs)[i]? = some none := by
      intro τ hl
      clear h
      induction vs with
      | nil => cases hi
      | cons v vs ih =>
        unfold wipe
        by_cases e : v = i
        · subst e; rw [List.getElem?_set_self (by rw [wipe_length]; exact hl)]
        · rw [List.getElem?_set_ne e]
          rcases List.mem_cons.mp hi with z | z
          · exact absurd z.symm e
          · exact ih z
    by_cases hx : i < σ.length
    · rw [g σ hx, g σ' (by rw [hl]; exact hx)]
    · rw [List.getElem?_eq_none (by rw [wipe_length, hl]; omega), List.getElem?_eq_none (by rw [wipe_length]; omega)]
  · rw [wipe_get hi, wipe_get hi, h i hi]
theorem wipe_wipe (vs : List Nat) : wipe (wipe σ vs) vs = wipe σ vs := wipe_ext (wipe_length σ vs) fun j hj => wipe_get hj
def lcL (g : D → S → Option S) (mt : MT) (me : ME) (vs : List Nat) : List D → List D → S → R (List D)
  | [], acc, s => .ok acc s
  | d :: r, acc, s => match g d s with
    | none => .err
    | some s2 => match mt s2 with
      | .ok true s3 => match me s3 with
        | .ok y s4 => if isSlot y = false ∧ acc.length < sizeLine then lcL g mt me vs r (acc ++ [y]) (wipeS vs s4) else .err
        | _ => .err
      | .ok false s3 => lcL g mt me vs r acc (wipeS vs s3)
      | _ => .err
def mLc (mi : MI) (g : D → S → Option S) (mt : MT) (me : ME) (vs : List Nat) : ME := fun s => (mi s).bind fun ds s1 => (lcL g mt me vs ds [] (wipeS vs s1)).bind fun acc s2 => .ok (.lst acc) (backS vs s1 s2)
theorem lc_ok {elt tg iter : Expr} {ifs : List Expr} {scope : Scope} {own : List (Str × Nat)} {mi : MI} {js : List Nat} {g : D → S → Option S} {mt : MT} {me : ME} (hc : X.calm = true) (hN : X.N.Nodup) (hi : RI C X W tg iter mi) (ok : BlkOk X.N X.env.scope scope own)
    (hg : ∀ (s : Shared) (H : Hp) (Ca : Addr) (cl : List (Str × Addr)) (fp : List Addr), RG C (X.blk s H scope (compEnvC scope cl Ca X.env) fp) tg js g)
    (hj : ∀ j ∈ js, j ∈ own.map (·.2))
    (ht : ∀ (s : Shared) (H : Hp) (Ca : Addr) (cl : List (Str × Addr)) (fp : List Addr), RTs C (X.blk s H scope (compEnvC scope cl Ca X.env) fp) W0 ifs mt)
    (he : ∀ (s : Shared) (H : Hp) (Ca : Addr) (cl : List (Str × Addr)) (fp : List Addr), RE C (X.blk s H scope (compEnvC scope cl Ca X.env) fp) W0 elt me) (hs : ∀ x, foldedSetIterable iter X.env x = pure x := by intro _; rfl) :
    ∃ (wi : TI) (g' : TG) (tt : TT) (te : TE), PI X tg iter wi ∧ (∀ (s : Shared) (H : Hp) (Ca : Addr) (cl : List (Str × Addr)) (fp : List Addr), PG (X.blk s H scope (compEnvC scope cl Ca X.env) fp) tg g') ∧ (∀ (s : Shared) (H : Hp) (Ca : Addr) (cl : List (Str × Addr)) (fp : List Addr), PTs (X.blk s H scope (compEnvC scope cl Ca X.env) fp) ifs tt) ∧
      (∀ (s : Shared) (H : Hp) (Ca : Addr) (cl : List (Str × Addr)) (fp : List Addr), PE (X.blk s H scope (compEnvC scope cl Ca X.env) fp) elt te) ∧
      ∀ (B : Bs) (ρ : List Addr) (F : Hp) (σ : St) (H : Hp) (s : S) (Q : VK), Rel C B ρ F σ H s → Post C B W σ (repF C B σ) ρ F (mLc mi g mt me (own.map (·.2)) s) Q → tLc wi g' tt te (own.map (·.2)) σ H Q := by
  obtain ⟨ti, pi, ki⟩ := hi
  obtain ⟨tg', pg, kg⟩ := RG.uni (ι := Shared × Hp × Addr × List (Str × Addr) × List Addr) (X := fun z => X.blk z.1 z.2.1 scope (compEnvC scope z.2.2.2.1 z.2.2.1 X.env) z.2.2.2.2) fun z => hg z.1 z.2.1 z.2.2.1 z.2.2.2.1 z.2.2.2.2
  obtain ⟨tt', pt, kt⟩ := RTs.uni (ι := Shared × Hp × Addr × List (Str × Addr) × List Addr) (X := fun z => X.blk z.1 z.2.1 scope (compEnvC scope z.2.2.2.1 z.2.2.1 X.env) z.2.2.2.2) fun z => ht z.1 z.2.1 z.2.2.1 z.2.2.2.1 z.2.2.2.2
  obtain ⟨te', pe, ke⟩ := RE.uni (ι := Shared × Hp × Addr × List (Str × Addr) × List Addr) (X := fun z => X.blk z.1 z.2.1 scope (compEnvC scope z.2.2.2.1 z.2.2.1 X.env) z.2.2.2.2) fun z => he z.1 z.2.1 z.2.2.1 z.2.2.2.1 z.2.2.2.2
  refine ⟨ti, tg', tt', te', pi, fun s H Ca cl fp => pg (s, H, Ca, cl, fp), fun s H Ca cl fp => pt (s, H, Ca, cl, fp), fun s H Ca cl fp => pe (s, H, Ca, cl, fp), fun B ρ F σ H s Q R h => ?_⟩
  generalize hvs : own.map (·.2) = vs at h hj ⊢
  refine ki B ρ F σ H s _ R (h.bind fun ds s1 _ ρ1 F1 H1 J _ _ R1 r1 h1 => ?_)
  have w := (show WalkD C ρ1 F1 J ds from r1).w
  intro Da hD
  obtain ⟨R2, l2⟩ := R1.free (o := .lst []) hD
  refine lc_it w (fun k H => ∃ ρ' F' s' acc us, ρ1 <+: ρ' ∧ Ex F1 F' ∧ Rel C B ρ' F' (wipe σ vs) H s' ∧ Loose B ρ' F' (wipe σ vs) H s' Da (.lst us) ∧ RepL C ρ' F' acc us ∧
      Post C B W σ (repF C B σ) ρ' F' ((lcL g mt me vs (ds.drop k) acc s').bind fun acc s2 => .ok (.lst acc) (backS vs s1 s2)) Q)
    ⟨ρ1, F1, _, [], [], rfP ρ1, rfX F1, R2.wiped vs, l2.wiped, rfl, h1⟩ (fun k H _ ⟨ρ', F', s', acc, us, _, x, R', _⟩ => x.trans R'.sub) ?_ ?_
  · rintro k x H2 H3 hk ⟨ρ', F', s', acc, us, pr, xf, R', l', ra, h'⟩ ⟨d, hd, hY⟩
    obtain ⟨F2, gr, rx⟩ := hY F' xf R'.sub
    rw [List.drop_eq_getElem_cons hk] at h'
    have ed : ds[k] = d := by
      rw [List.getElem?_eq_getElem hk] at hd
      exact Option.some.inj hd
    rw [ed] at h'
    unfold lcL at h'
    have x2 := gr.exF R'.sub
    have R3 := R'.grow gr
    have l3 := l'.grow gr
    split at h'
    · exact h'.elim
    · next s2 e2 =>
      have h' := Post.weak h' (rfP ρ') x2
      refine kg (here ρ' F2 (wipe σ vs) H3 s') ρ' F2 (wipe σ vs) H3 s' s2 d x _ R3.here (rx.mono pr (rfX F2)) e2 fun σ4 R4 o4 => ?_
      have we : wipe σ4 vs = wipe σ vs := (wipe_ext (σ' := σ4) (σ := wipe σ vs) (vs := vs) o4.1 fun j hj' => o4.2 j fun z => hj' (hj j z)).trans (wipe_wipe vs)
      refine ⟨we, ?_⟩
      refine kt _ ρ' F2 σ4 H3 s2 _ R4 ?_
      cases q : mt s2 with
      | err => rw [q] at h'; exact h'.elim
      | exc x s3 => rw [q] at h'; exact h'.elim
      | ok b s3 =>
        rintro ρ5 F5 H5 b' p5 x5 R5 rfl
        cases b' with
        | false =>
          rw [if_neg Bool.false_ne_true]
          rw [q] at h'
          have R6 := (R3.back R5).wiped vs
          have l6 := (Loose.keep R3 l3 R5).wiped (vs := vs)
          rw [we] at R6 l6
          exact ⟨ρ5, F5, _, acc, us, pr.trans p5, (xf.trans x2).trans x5, R6, l6, ra.mono p5 (x2.trans x5), Post.weak h' p5 x5⟩
        | true =>
          rw [if_pos rfl]
          rw [q] at h'
          refine ke _ ρ5 F5 σ4 H5 s3 _ R5 ?_
          cases q2 : me s3 with
          | err => simp only [q2] at h'; exact h'.elim
          | exc x s4 => simp only [q2] at h'; exact h'.elim
          | ok y s4 =>
            simp only [q2] at h'
            rintro ρ6 F6 H6 yv p6 x6 R6 r6
            split at h'
            · next hy =>
              have R7 := R3.back R6
              have l7 := Loose.keep R3 l3 R6
              refine ⟨us, l7.h, by rw [ra.length]; exact hy.2, ?_⟩
              obtain ⟨R8, l8⟩ := R7.looseUpd (u := .lst (us ++ [yv])) l7
              have R9 := R8.wiped vs
              have l9 := l8.wiped (vs := vs)
              rw [we] at R9 l9
              exact ⟨ρ6, F6, _, acc ++ [y], us ++ [yv], (pr.trans p5).trans p6, ((xf.trans x2).trans x5).trans x6, R9, l9, (ra.mono (p5.trans p6) ((x2.trans x5).trans x6)).append (RepL.one (r6.rep hy.1)), Post.weak h' (p5.trans p6) (x5.trans x6)⟩
            · exact h'.elim
  · rintro H2 ⟨ρ', F', s', acc, us, pr, xf, R', l', ra, h'⟩
    rw [List.drop_length] at h'
    exact h'.now (rfP ρ') (rfX F') (R1.unwipe R' pr xf) ⟨Da, _, rfl, l'.unwipe, ⟨us, rfl, ra⟩, trivial⟩
theorem rf_lc {elt tg iter : Expr} {ifs : List Expr} {scope : Scope} {own : List (Str × Nat)} {mi : MI} {js : List Nat} {g : D → S → Option S} {mt : MT} {me : ME} (hc : X.calm = true) (hN : X.N.Nodup) (hi : RI C X W tg iter mi) (ok : BlkOk X.N X.env.scope scope own)
    (hg : ∀ (s : Shared) (H : Hp) (Ca : Addr) (cl : List (Str × Addr)) (fp : List Addr), RG C (X.blk s H scope (compEnvC scope cl Ca X.env) fp) tg js g)
    (hj : ∀ j ∈ js, j ∈ own.map (·.2))
    (ht : ∀ (s : Shared) (H : Hp) (Ca : Addr) (cl : List (Str × Addr)) (fp : List Addr), RTs C (X.blk s H scope (compEnvC scope cl Ca X.env) fp) W0 ifs mt)
    (he : ∀ (s : Shared) (H : Hp) (Ca : Addr) (cl : List (Str × Addr)) (fp : List Addr), RE C (X.blk s H scope (compEnvC scope cl Ca X.env) fp) W0 elt me) (hs : ∀ x, foldedSetIterable iter X.env x = pure x := by intro _; rfl) :
    RF C X W (.ListComp elt [⟨tg, iter, ifs, 0⟩] scope pos) (mLc mi g mt me (own.map (·.2))) := by
  obtain ⟨ti, tg', tt', te', pi, pg, pt, pe, k⟩ := lc_ok (W := W) hc hN hi ok hg hj ht he hs
  exact ⟨_, pe_lc (own := own) hc hN pi ok pg pt pe hs, k⟩
theorem rs_setLc {i : Bool} {n : Nat} {y : Str} {py spos : Pos} (hy : X.N[n]? = some y) (hyl : X.env.scope.names.lookup y = some .local) {elt tg iter : Expr} {ifs : List Expr} {scope : Scope} {own : List (Str × Nat)} {mi : MI} {js : List Nat} {g : D → S → Option S} {mt : MT} {me : ME} (hc : X.calm = true) (hN : X.N.Nodup) (hi : RI C X W tg iter mi) (ok : BlkOk X.N X.env.scope scope own)
    (hg : ∀ (s : Shared) (H : Hp) (Ca : Addr) (cl : List (Str × Addr)) (fp : List Addr), RG C (X.blk s H scope (compEnvC scope cl Ca X.env) fp) tg js g)
    (hj : ∀ j ∈ js, j ∈ own.map (·.2))
    (ht : ∀ (s : Shared) (H : Hp) (Ca : Addr) (cl : List (Str × Addr)) (fp : List Addr), RTs C (X.blk s H scope (compEnvC scope cl Ca X.env) fp) W0 ifs mt)
    (he : ∀ (s : Shared) (H : Hp) (Ca : Addr) (cl : List (Str × Addr)) (fp : List Addr), RE C (X.blk s H scope (compEnvC scope cl Ca X.env) fp) W0 elt me) (hsw : swapsWith (.ListComp elt [⟨tg, iter, ifs, 0⟩] scope pos) (some (.Name y py)) spos.line X.env = pure true) (hs : ∀ x, foldedSetIterable iter X.env x = pure x := by intro _; rfl) :
    RS C X W i (.Assign [.Name y py] (.ListComp elt [⟨tg, iter, ifs, 0⟩] scope pos) spos) (mSet n (mLc mi g mt me (own.map (·.2)))) := by
  obtain ⟨ti, tg', tt', te', pi, pg, pt, pe, k⟩ := lc_ok (W := W) hc hN hi ok hg hj ht he hs
  refine ⟨_, ps_setLc (own := own) hc hN hy hyl hsw pi ok pg pt pe hs, fun B ρ F σ H s D hi R h => k B ρ F σ H s _ R (h.bind fun d s1 _ ρ1 F1 H1 v _ _ R1 r1 h1 => ?_)⟩
  obtain ⟨p, o, rfl, l, ro, mo⟩ := r1
  obtain ⟨R2, xf⟩ := R1.adoptFz l
  split at h1
  · exact h1.elim
  · exact h1 ρ1 _ _ H1 (rfP ρ1) xf (R2.setFz (ro.rep l.f))
theorem rs_setOwLc {i : Bool} {n : Nat} {y : Str} {py spos : Pos} (hy : X.N[n]? = some y) (hyl : X.env.scope.names.lookup y = some .local) {elt tg iter : Expr} {ifs : List Expr} {scope : Scope} {own : List (Str × Nat)} {mi : MI} {js : List Nat} {g : D → S → Option S} {mt : MT} {me : ME} (hc : X.calm = true) (hN : X.N.Nodup) (hi : RI C X W tg iter mi) (ok : BlkOk X.N X.env.scope scope own)
    (hg : ∀ (s : Shared) (H : Hp) (Ca : Addr) (cl : List (Str × Addr)) (fp : List Addr), RG C (X.blk s H scope (compEnvC scope cl Ca X.env) fp) tg js g)
    (hj : ∀ j ∈ js, j ∈ own.map (·.2))
    (ht : ∀ (s : Shared) (H : Hp) (Ca : Addr) (cl : List (Str × Addr)) (fp : List Addr), RTs C (X.blk s H scope (compEnvC scope cl Ca X.env) fp) W0 ifs mt)
    (he : ∀ (s : Shared) (H : Hp) (Ca : Addr) (cl : List (Str × Addr)) (fp : List Addr), RE C (X.blk s H scope (compEnvC scope cl Ca X.env) fp) W0 elt me) (hsw : swapsWith (.ListComp elt [⟨tg, iter, ifs, 0⟩] scope pos) (some (.Name y py)) spos.line X.env = pure true) (hs : ∀ x, foldedSetIterable iter X.env x = pure x := by intro _; rfl) :
    RS C X W i (.Assign [.Name y py] (.ListComp elt [⟨tg, iter, ifs, 0⟩] scope pos) spos) (mSetOw n (mLc mi g mt me (own.map (·.2)))) := by
  obtain ⟨ti, tg', tt', te', pi, pg, pt, pe, k⟩ := lc_ok (W := W) hc hN hi ok hg hj ht he hs
  refine ⟨_, ps_setLc (own := own) hc hN hy hyl hsw pi ok pg pt pe hs, fun B ρ F σ H s D hi R h => k B ρ F σ H s _ R (h.bind fun d s1 _ ρ1 F1 H1 v _ _ R1 r1 h1 => ?_)⟩
  obtain ⟨p, o, rfl, l, ro, mo⟩ := r1
  exact h1 ρ1 F1 _ H1 (rfP ρ1) (rfX F1) (R1.adoptOw l ro mo)
end
end ML
end
section
set_option Elab.async false
set_option linter.all false
set_option maxRecDepth 100000
set_option autoImplicit false
/-! ML12: places changed: fields, items of lists and dicts, methods that change a list. -/
namespace ML
open PySem PySem.Spec PyProof.Rows L2
theorem PE.or {X : Cx} {e : Expr} {t1 t2 : TE} (h1 : PE X e t1) (h2 : PE X e t2) : PE X e (fun σ H Q => t1 σ H Q ∨ t2 σ H Q) :=
  ⟨fun pins s σ H Q I h => h.elim (fun h => h1.run pins s σ H Q I h) (fun h => h2.run pins s σ H Q I h)⟩
section
variable {C : Ctx} {X : Cx} {W : WX} {pos : Pos} {B : Bs} {ρ ρ' : List Addr} {F F' : Hp} {σ : St} {H H' : Hp} {s : S} {i : Bool}
def orE (a b : ME) : ME := fun s => match a s with
  | .err => b s
  | r => r
theorem RE.or {e : Expr} {a b : ME} (h1 : RE C X W e a) (h2 : RE C X W e b) : RE C X W e (orE a b) := by
  obtain ⟨t1, p1, k1⟩ := h1
  obtain ⟨t2, p2, k2⟩ := h2
  refine ⟨_, PE.or p1 p2, fun B ρ F σ H s Q R h => ?_⟩
  unfold orE at h
  cases q : a s with
  | err => rw [q] at h; exact .inr (k2 B ρ F σ H s Q R h)
  | ok d s' => rw [q] at h; exact .inl (k1 B ρ F σ H s Q R (by rw [q]; exact h))
  | exc x s' => rw [q] at h; exact .inl (k1 B ρ F σ H s Q R (by rw [q]; exact h))
theorem RF.or {e : Expr} {a b : ME} (h1 : RF C X W e a) (h2 : RF C X W e b) : RF C X W e (orE a b) := by
  obtain ⟨t1, p1, k1⟩ := h1
  obtain ⟨t2, p2, k2⟩ := h2
  refine ⟨_, PE.or p1 p2, fun B ρ F σ H s Q R h => ?_⟩
  unfold orE at h
  cases q : a s with
  | err => rw [q] at h; exact .inr (k2 B ρ F σ H s Q R h)
  | ok d s' => rw [q] at h; exact .inl (k1 B ρ F σ H s Q R (by rw [q]; exact h))
  | exc x s' => rw [q] at h; exact .inl (k1 B ρ F σ H s Q R (by rw [q]; exact h))
/-! ### fields -/
structure AttrOk (C : Ctx) (cs : List Nat) (f : Str) : Prop where
  ok : ∀ c ∈ cs, Cls C.K (C.cA c) ∧ NoAttr C.K (C.cA c) f
def lookN : List Str → List D → Str → Option D
  | n :: ns, d :: ds, f => if f = n then some d else lookN ns ds f
  | _, _, _ => none
theorem lookN_ok (f : Str) : ∀ {fs : List (Str × V)} {ds : List D}, RepL C ρ F ds (fs.map (·.2)) → ∀ {d : D}, lookN (fs.map (·.1)) ds f = some d → ∃ v, fs.lookup f = some v ∧ Rep C ρ F d v
  | [], ds, _, d, h => by cases ds <;> simp [lookN] at h
  | (n, w) :: fs, [], h, d, _ => by cases (show _ = [] from h)
  | (n, w) :: fs, d' :: ds, ⟨v, r, e, h, t⟩, d, hd => by
    simp only [List.map_cons, List.cons.injEq] at e
    obtain ⟨e1, e2⟩ := e
    subst e1 e2
    simp only [List.map_cons, lookN] at hd
    by_cases hn : f = n
    · rw [if_pos hn] at hd
      cases hd
      refine ⟨w, ?_, h⟩
      rw [List.lookup_cons, hn, beq_self_eq_true]
    · rw [if_neg hn] at hd
      obtain ⟨v, e, r⟩ := lookN_ok f t hd
      refine ⟨v, ?_, r⟩
      rw [List.lookup_cons, beq_eq_false_iff_ne.mpr hn]
      exact e
def mFld (cs : List Nat) (f : Str) (a : ME) : ME := fun s => (a s).bind fun d s' => match cont s' d with
  | some (.obj c ns ds) => if c ∈ cs then match lookN ns ds f with
      | some e => .ok e s'
      | none => .err
    else .err
  | _ => .err
theorem re_fld {cs : List Nat} {f : Str} {e : Expr} {m : ME} (hK : X.K = C.K) (A : AttrOk C cs f) (he : RE C X W e m) (hb : attributeBase e f X.env (eval e X.env) = eval e X.env := by rfl) : RE C X W (.Attribute e f pos) (mFld cs f m) := by
  obtain ⟨ta, pa, ka⟩ := he
  refine ⟨_, pe_fld pa hb, fun B ρ F σ H s Q R h => ka B ρ F σ H s _ R (h.bind fun d s1 _ ρ1 F1 H1 v _ _ R1 r1 h1 => ?_)⟩
  split at h1
  · next c ns ds hc =>
    split at h1
    · next hm =>
      split at h1
      · next e2 he2 =>
        obtain ⟨a, dx, fs, rfl, g1, rfl, r⟩ := vw_obj (R1.view r1 hc)
        obtain ⟨w, hw, rw'⟩ := lookN_ok f r he2
        obtain ⟨k1, k2⟩ := A.ok c hm
        exact ⟨a, _, dx, fs, w, rfl, g1, hK ▸ k1, hK ▸ k2, hw, h1.now (rfP ρ1) (rfX F1) R1 (RepT.of rw')⟩
      · exact h1.elim
    · exact h1.elim
  · exact h1.elim
/-! ### a place's content -/
def putP (s : S) : D → D → Option S
  | .slot i, c => match s.env[i]? with
    | some (.ow _) => some { s with env := s.env.set i (.ow c) }
    | _ => none
  | .cell n, c => if n < s.cs.length then some { s with cs := s.cs.set n c } else none
  | _, _ => none
theorem Rel.put (R : Rel C B ρ F σ H s) {d c c' : D} {v : V} {s' : S} (h : RepT C ρ F σ d v) (hc : cont s d = some c) (hp : putP s d c' = some s') :
    ∃ a o, v = .ref a ∧ H a = some o ∧ ObjR C ρ F c o ∧ ∀ o', ObjR C ρ F c' o' → Mut (some o') → Rel C B ρ F σ (upd H a o') s' := by
  cases d with
  | slot i =>
    simp only [putP] at hp
    split at hp
    · next d' e =>
      cases hp
      obtain ⟨a, o, e1, _, _, e4, r, _⟩ := R.ow i _ e
      have e3 : σ[i]? = some (some v) := h
      rw [e1] at e3
      cases e3
      have hc : (match s.env[i]? with | some (.ow d) => some d | _ => none) = some c := hc
      rw [e] at hc
      cases hc
      exact ⟨a, o, rfl, e4, r, fun o' r' m' => R.putSlot e e1 r' m'⟩
    · cases hp
  | cell n =>
    simp only [putP] at hp
    split at hp
    · cases hp
      obtain ⟨a, rfl, ha⟩ := h
      obtain ⟨o, _, e2, r, _⟩ := R.cr n c a hc ha
      exact ⟨a, o, rfl, e2, r, fun o' r' m' => R.putCell hc ha r' m'⟩
    · cases hp
  | _ => cases hp
/-- target.f = value -/
def putN : List Str → List D → Str → D → List Str × List D
  | n :: ns, d :: ds, f, e => if n = f then (n :: ns, e :: ds) else (n :: (putN ns ds f e).1, d :: (putN ns ds f e).2)
  | ns, ds, f, e => (ns ++ [f], ds ++ [e])
theorem putN_ok (f : Str) {e : D} {w : V} (re : Rep C ρ F e w) : ∀ {fs : List (Str × V)} {ds : List D}, RepL C ρ F ds (fs.map (·.2)) → (putF f w fs).map (·.1) = (putN (fs.map (·.1)) ds f e).1 ∧ RepL C ρ F (putN (fs.map (·.1)) ds f e).2 ((putF f w fs).map (·.2))
  | [], [], _ => ⟨rfl, RepL.one re⟩
  | [], _ :: _, ⟨v, r, h, _⟩ => by simp at h
  | (n, u) :: fs, [], h => by cases (show _ = [] from h)
  | (n, u) :: fs, d :: ds, ⟨v, r, h, hd, t⟩ => by
    simp only [List.map_cons, List.cons.injEq] at h
    obtain ⟨e1, e2⟩ := h
    subst e1 e2
    by_cases hn : n = f
    · simp only [putF, putN, List.map_cons, hn, if_true]
      exact ⟨trivial, w, _, rfl, re, t⟩
    · obtain ⟨g1, g2⟩ := putN_ok f re t
      simp only [putF, putN, List.map_cons, if_neg hn]
      exact ⟨by rw [g1], u, _, rfl, hd, g2⟩
theorem putN_len (f : Str) (e : D) : ∀ (ns : List Str) (ds : List D), (putN ns ds f e).1.length ≤ ns.length + 1
  | [], ds => by simp [putN]
  | n :: ns, [] => by simp [putN]
  | n :: ns, d :: ds => by
    simp only [putN]
    split
    · simp
    · have := putN_len f e ns ds
      simp only [List.length_cons]
      omega
def mPutF (cs : List Nat) (f : Str) (mo mv : ME) : MS := fun s => (mv s).thenS fun v s1 => if isSlot v = true then .err else (mo s1).thenS fun d s2 => match cont s2 d with
  | some (.obj c ns ds) => if c ∈ cs ∧ ns.length < 1000 then match putP s2 d (.obj c (putN ns ds f v).1 (putN ns ds f v).2) with
      | some s3 => .nx s3
      | none => .err
    else .err
  | _ => .err
theorem rs_putF {cs : List Nat} {f : Str} {o value : Expr} {mo mv : ME} {pos' : Pos} (hK : X.K = C.K) (A : AttrOk C cs f) (ho : RE C X W o mo) (hv : RE C X W value mv) (hs : swapsWith value (some (.Attribute o f pos')) pos.line X.env = pure false := by rfl) :
    RS C X W i (.Assign [.Attribute o f pos'] value pos) (mPutF cs f mo mv) := by
  obtain ⟨to, po, ko⟩ := ho
  obtain ⟨tv, pv, kv⟩ := hv
  refine ⟨_, ps_fld po pv hs, fun B ρ F σ H s D hi R h => ?_⟩
  refine kv B ρ F σ H s _ R (h.bind fun d s1 _ ρ1 F1 H1 y _ _ R1 r1 h1 => ?_)
  split at h1
  · exact h1.elim
  · next nv =>
    have ry := r1.rep (by simpa using nv)
    refine ko B ρ1 F1 σ H1 s1 _ R1 (h1.bind fun d2 s2 _ ρ2 F2 H2 x p2 x2 R2 r2 h2 => ?_)
    split at h2
    · next c ns ds hc =>
      split at h2
      · next hm =>
        split at h2
        · next s3 hp =>
          obtain ⟨a, o, rfl, g1, ⟨dx, fs, rfl, rfl, rr⟩, k⟩ := R2.put r2 hc hp
          obtain ⟨k1, k2⟩ := A.ok c hm.1
          refine ⟨a, _, dx, fs, rfl, g1, hK ▸ k1, hK ▸ k2, by simpa using hm.2, ?_⟩
          obtain ⟨q1, q2⟩ := putN_ok f (ry.mono p2 x2) rr
          exact h2 ρ2 F2 σ _ (rfP ρ2) (rfX F2) (k _ ⟨dx, _, rfl, q1, q2⟩ trivial)
        · exact h2.elim
      · exact h2.elim
    · exact h2.elim
theorem vwL_of_rep (hx : Ex F H) : ∀ {ds : List D} {vs : List V}, RepL C ρ F ds vs → VwL C ρ F H ds vs
  | [], _, h => h
  | _ :: _, _, ⟨v, r, e, h, t⟩ => ⟨v, r, e, Vw.of_rep hx h, vwL_of_rep hx t⟩
/-! ### methods that change a list -/
/-- what such a method does: the answer, the content -/
def SemU (C : Ctx) (r : V → List V → Hp → VK → Prop) (f : D → List D → Option (D × D)) : Prop :=
  ∀ (ρ : List Addr) (F H : Hp) (c : D) (cs : List D) (d c' : D) (a : Addr) (o : HO) (vs : List V) (Q : VK), Ex F H → H a = some o → ObjR C ρ F c o → VwL C ρ F H cs vs → RepL C ρ F cs vs → f c cs = some (d, c') →
    (∀ v o', ObjR C ρ F c' o' → Mut (some o') → Rep C ρ F d v → Q v (upd H a o')) → r (.ref a) vs H Q
def mMut (T : String) (f : D → List D → Option (D × D)) (mo : ME) (ma : MA) : ME := fun s => (mo s).bind fun d s1 => match cont s1 d with
  | some c1 => if ofTy T c1 = true then (ma s1).bind fun ds s2 => if noSlots ds = true then match cont s2 d with
      | some c => match f c ds with
        | some (e, c') => match putP s2 d c' with
          | some s3 => .ok e s3
          | none => .err
        | none => .err
      | none => .err
      else .err
    else .err
  | none => .err
theorem tBM_mut {T : String} {to : TE} {t : TA} {K : PySem.W.Frag} {mo : ME} {ma : MA} {r : V → List V → Hp → VK → Prop} {f : D → List D → Option (D × D)} (hs : SemU C r f)
    (ko : ∀ (B : Bs) (ρ : List Addr) (F : Hp) (σ : St) (H : Hp) (s : S) (Q : VK), Rel C B ρ F σ H s → Post C B W σ (repE C σ) ρ F (mo s) Q → to σ H Q)
    (ka : ∀ (B : Bs) (ρ : List Addr) (F : Hp) (σ : St) (H : Hp) (s : S) (Q : List V → Hp → Prop), Rel C B ρ F σ H s → Post C B W σ (repA C σ) ρ F (ma s) Q → t σ H Q)
    (B : Bs) (ρ : List Addr) (F : Hp) (σ : St) (H : Hp) (s : S) (Q : VK) (R : Rel C B ρ F σ H s) (h : Post C B W σ (repE C σ) ρ F (mMut T f mo ma s) Q) : tBM K T r to t σ H Q := by
  refine ko B ρ F σ H s _ R (h.bind fun d s1 _ ρ1 F1 H1 x _ _ R1 r1 h1 => ?_)
  split at h1
  · next c1 hc1 =>
    split at h1
    · next ht =>
      refine ⟨ofTy_ok (R1.view r1 hc1) ht, ?_⟩
      refine ka B ρ1 F1 σ H1 s1 _ R1 (h1.bind fun ds s2 _ ρ2 F2 H2 vs p2 x2 R2 r2 h2 => ?_)
      split at h2
      · next hn =>
        split at h2
        · next c hc =>
          split at h2
          · next e c' he =>
            split at h2
            · next s3 hp =>
              obtain ⟨a, o, rfl, g1, ro, k⟩ := R2.put (RepT.mono p2 x2 r1) hc hp
              have rl := r2.rep hn
              refine hs ρ2 F2 H2 c ds e c' a o vs Q R2.sub g1 ro (vwL_of_rep R2.sub rl) rl he fun v o' ro' mo' rv => h2.now (rfP ρ2) (rfX F2) (k o' ro' mo') (RepT.of rv)
            · exact h2.elim
          · exact h2.elim
        · exact h2.elim
      · exact h2.elim
    · exact h1.elim
  · exact h1.elim
theorem re_mut {T id : String} {o e : Expr} {es : List Expr} {name : Str} {apos cpos : Pos} {r : V → List V → Hp → VK → Prop} {f : D → List D → Option (D × D)} {mo : ME} {ma : MA} (pa : PlainAttrs T) (slot : Slot T name id) (hty : typeOf (.builtin id) = pure (.type "method_descriptor")) (hm : MtR X id r) (hs : SemU C r f) (ho : RE C X W o mo) (ha : RA C X W (e :: es) ma)
    (hbase : attributeBase o name X.env (eval o X.env) = eval o X.env := by rfl)
    (hfew : ((backTo cpos (starEach (e :: es) X.env)).all (fun x => !x.1) && (backToKw cpos (keywordEach [] X.env)).all (fun x => x.1.isSome)
      && decide ((e :: es).length + ([] : List Keyword).length + (if ([] : List Keyword).isEmpty then 0 else 1) < 30)) = true := by rfl)
    (hline : (apos.endLine == cpos.line) = true := by rfl) (hst : starEach (e :: es) X.env = (false, eval e X.env) :: starEach es X.env := by rfl) (hplain : (backTo cpos (starEach es X.env)).any (·.1) = false := by rfl) :
    RE C X W (.Call (.Attribute o name apos) (e :: es) [] cpos) (mMut T f mo ma) := by
  obtain ⟨to, po, ko⟩ := ho
  obtain ⟨t, p, k⟩ := ha
  exact ⟨_, pe_bm pa slot hty hm po p hbase hfew hline hst hplain, tBM_mut hs ko k⟩
theorem re_mut0 {T id : String} {o : Expr} {name : Str} {apos cpos : Pos} {r : V → List V → Hp → VK → Prop} {f : D → List D → Option (D × D)} {mo : ME} (pa : PlainAttrs T) (slot : Slot T name id) (hty : typeOf (.builtin id) = pure (.type "method_descriptor")) (hm : MtR X id r) (hs : SemU C r f) (ho : RE C X W o mo)
    (hbase : attributeBase o name X.env (eval o X.env) = eval o X.env := by rfl) (hline : (apos.endLine == cpos.line) = true := by rfl) :
    RE C X W (.Call (.Attribute o name apos) [] [] cpos) (mMut T f mo mNil) := by
  obtain ⟨to, po, ko⟩ := ho
  refine ⟨_, pe_bm0 pa slot hty hm po hbase hline, fun B ρ F σ H s Q R h => ?_⟩
  have := tBM_mut (K := X.K) (t := tNil) hs ko (fun B ρ F σ H s Q R h => Post.now (rep := repA C σ) (d := []) (v := []) h (rfP ρ) (rfX F) R (show RepTL C ρ F σ [] [] from rfl)) B ρ F σ H s Q R h
  exact this
def appendU : D → List D → Option (D × D)
  | .lst ds, [e] => if ds.length < sizeLine then some (.non, .lst (ds ++ [e])) else none
  | _, _ => none
theorem sem_append : SemU C rAppend appendU := by
  intro ρ F H c cs d c' a o vs Q xf ha ro _ rl e k
  unfold appendU at e
  split at e
  · split at e
    · next hz =>
      cases e
      obtain ⟨ws, rfl, r⟩ := ro
      obtain ⟨v, r2, rfl, rv, t⟩ := rl
      cases (show r2 = [] from t)
      exact ⟨a, ws, v, rfl, rfl, ha, by rw [r.length]; exact hz, k .non _ ⟨_, rfl, r.append (RepL.one rv)⟩ trivial rfl⟩
    · cases e
  · cases e
def popU : D → List D → Option (D × D)
  | .lst ds, [] => match ds[ds.length - 1]? with
    | some e => some (e, .lst ds.dropLast)
    | none => none
  | _, _ => none
theorem RepL.dropLast : ∀ {ds : List D} {vs : List V}, RepL C ρ F ds vs → RepL C ρ F ds.dropLast vs.dropLast
  | [], _, h => by cases (show _ = [] from h); rfl
  | [d], _, ⟨v, r, e, h, t⟩ => by subst e; cases (show r = [] from t); rfl
  | d :: d2 :: ds, _, ⟨v, r, e, h, t⟩ => by
    subst e
    obtain ⟨v2, r2, rfl, h2, t2⟩ := id t
    exact ⟨v, _, rfl, h, t.dropLast⟩
theorem sem_pop : SemU C rPop popU := by
  intro ρ F H c cs d c' a o vs Q xf ha ro _ rl e k
  unfold popU at e
  split at e
  · split at e
    · next ds y hy =>
      cases e
      obtain ⟨ws, rfl, r⟩ := ro
      cases (show vs = [] from rl)
      obtain ⟨v, ev, rv⟩ := r.get hy
      exact ⟨a, ws, v, rfl, rfl, ha, by rw [r.length]; exact ev, k v _ ⟨_, rfl, r.dropLast⟩ trivial rv⟩
    · cases e
  · cases e
def popAtU : D → List D → Option (D × D)
  | .lst ds, [.int i] => if -(2 ^ 63) ≤ i ∧ i < 2 ^ 63 then match seqIndex? i ds.length with
    | some k => match ds[k]? with
      | some e => some (e, .lst (ds.eraseIdx k))
      | none => none
    | none => none
    else none
  | _, _ => none
theorem RepL.eraseIdx : ∀ {ds : List D} {vs : List V}, RepL C ρ F ds vs → ∀ k : Nat, RepL C ρ F (ds.eraseIdx k) (vs.eraseIdx k)
  | [], _, h, k => by cases (show _ = [] from h); exact RepL.nil
  | d :: ds, _, ⟨v, r, e, h, t⟩, 0 => by subst e; exact t
  | d :: ds, _, ⟨v, r, e, h, t⟩, k + 1 => by subst e; exact ⟨v, _, rfl, h, t.eraseIdx k⟩
theorem sem_popAt : SemU C rPopAt popAtU := by
  intro ρ F H c cs d c' a o vs Q xf ha ro _ rl e k
  unfold popAtU at e
  split at e
  · split at e
    · next hi =>
      split at e
      · next j hj =>
        split at e
        · next y hy =>
          cases e
          obtain ⟨ws, rfl, r⟩ := ro
          obtain ⟨v1, r2, rfl, rv1, t⟩ := rl
          cases (show r2 = [] from t)
          obtain rfl : v1 = V.int _ := rv1
          obtain ⟨v, ev, rv⟩ := r.get hy
          exact ⟨a, ws, _, j, v, rfl, rfl, ha, hi.1, hi.2, by rw [r.length]; exact hj, ev, k v _ ⟨_, rfl, r.eraseIdx j⟩ trivial rv⟩
        · cases e
      · cases e
    · cases e
  · cases e
def clearU : D → List D → Option (D × D)
  | .lst _, [] => some (.non, .lst [])
  | _, _ => none
theorem sem_clear : SemU C rClear clearU := by
  intro ρ F H c cs d c' a o vs Q xf ha ro _ rl e k
  unfold clearU at e
  split at e
  · cases e
    obtain ⟨ws, rfl, r⟩ := ro
    cases (show vs = [] from rl)
    exact ⟨a, ws, rfl, rfl, ha, k .non _ ⟨[], rfl, rfl⟩ trivial rfl⟩
  · cases e
def extendU : D → List D → Option (D × D)
  | .lst ds, [.lst es] => if ds.length + es.length ≤ sizeLine then some (.non, .lst (ds ++ es)) else none
  | _, _ => none
theorem sem_extend : SemU C rExtend extendU := by
  intro ρ F H c cs d c' a o vs Q xf ha ro _ rl e k
  unfold extendU at e
  split at e
  · split at e
    · next hz =>
      cases e
      obtain ⟨ws, rfl, r⟩ := ro
      obtain ⟨v1, r2, rfl, rv1, t⟩ := rl
      cases (show r2 = [] from t)
      obtain ⟨b, o2, rfl, g2, us, rfl, ru⟩ := rv1
      exact ⟨a, b, ws, us, rfl, rfl, ha, xf _ _ g2, by rw [r.length, ru.length]; exact hz, k .non _ ⟨_, rfl, r.append ru⟩ trivial rfl⟩
    · cases e
  · cases e
noncomputable def insertU : D → List D → Option (D × D)
  | .lst ds, [.int i, y] => if ds.length < sizeLine ∧ ok63 i then some (.non, .lst (ds.take i.toNat ++ [y] ++ ds.drop i.toNat)) else none
  | _, _ => none
theorem sem_insert : SemU C (fun x vs H Q => ∃ (l : Addr) (xs : List V) (i : Int) (y : V), x = .ref l ∧ vs = [.int i, y] ∧ H l = some (.lst xs) ∧ xs.length < sizeLine ∧ 0 ≤ i ∧ i < 2 ^ 63 ∧
    Q .non (upd H l (.lst (xs.take i.toNat ++ [y] ++ xs.drop i.toNat)))) insertU := by
  intro ρ F H c cs d c' a o vs Q xf ha ro _ rl e k
  unfold insertU at e
  split at e
  · split at e
    · next hz =>
      cases e
      obtain ⟨ws, rfl, r⟩ := ro
      obtain ⟨v1, r2, rfl, rv1, v2, r3, rfl, rv2, t⟩ := rl
      cases (show r3 = [] from t)
      obtain rfl : v1 = V.int _ := rv1
      exact ⟨a, ws, _, v2, rfl, rfl, ha, by rw [r.length]; exact hz.1, hz.2.1, hz.2.2, k .non _ ⟨_, rfl, ((r.take _).append (RepL.one rv2)).append (r.drop _)⟩ trivial rfl⟩
    · cases e
  · cases e
/-! ### x[i] = e, d[k] = e -/
def setL (c i e : D) : Option D := match c, i with
  | .lst ds, .int k => match ixN ds.length k with
    | some j => some (.lst (ds.set j e))
    | none => none
  | _, _ => none
theorem RepL.set : ∀ {ds : List D} {vs : List V}, RepL C ρ F ds vs → ∀ {d : D} {v : V}, Rep C ρ F d v → ∀ k : Nat, RepL C ρ F (ds.set k d) (vs.set k v)
  | [], _, h, _, _, _, k => by cases (show _ = [] from h); exact RepL.nil
  | _ :: _, _, ⟨v, r, e, h, t⟩, _, _, rd, 0 => by subst e; exact ⟨_, _, rfl, rd, t⟩
  | _ :: _, _, ⟨v, r, e, h, t⟩, _, _, rd, k + 1 => by subst e; exact ⟨v, _, rfl, h, t.set rd k⟩
def mSetIx (mo mi mv : ME) : MS := fun s => (mv s).thenS fun v s1 => if isSlot v = true then .err else (mo s1).thenS fun d s2 => (mi s2).thenS fun j s3 => match cont s3 d with
  | some c => match setL c j v with
    | some c' => match putP s3 d c' with
      | some s4 => .nx s4
      | none => .err
    | none => .err
  | none => .err
theorem rs_setIx {o j value : Expr} {mo mi mv : ME} {pos' : Pos} (ho : RE C X W o mo) (hj : RE C X W j mi) (hv : RE C X W value mv) (hs : swapsWithSole [.Subscript o j pos'] value pos.line X.env = pure false := by rfl) (hw : swappedStores [.Subscript o j pos'] value X.env = pure none := by rfl)
    (h1 : (assignEach [.Subscript o j pos'] X.env).map (·.2) = [assign (.Subscript o j pos') X.env] := by rfl)
    (ha : ∀ v, assign (.Subscript o j pos') X.env v = (do
      let ov ← holding [v] (eval o X.env)
      let iv ← holding [v, ov] (eval j X.env)
      standAt pos'
      holding [v, ov, iv] (setItem ov iv v)
      release [v, ov, iv] []) := by intro _; rfl) : RS C X W i (.Assign [.Subscript o j pos'] value pos) (mSetIx mo mi mv) := by
  obtain ⟨to, po, ko⟩ := ho
  obtain ⟨ti, pi, ki⟩ := hj
  obtain ⟨tv, pv, kv⟩ := hv
  refine ⟨_, ps_asg pv (pg_sub po pi set_list ha) hs hw h1, fun B ρ F σ H s D hi R h => ?_⟩
  refine kv B ρ F σ H s _ R (h.bind fun d s1 _ ρ1 F1 H1 y _ _ R1 r1 h1 => ?_)
  split at h1
  · exact h1.elim
  · next nv =>
    have ry := r1.rep (by simpa using nv)
    refine ko B ρ1 F1 σ H1 s1 _ R1 (h1.bind fun d2 s2 _ ρ2 F2 H2 x p2 x2 R2 r2 h2 => ?_)
    refine ki B ρ2 F2 σ H2 s2 _ R2 (h2.bind fun j s3 _ ρ3 F3 H3 z p3 x3 R3 r3 h3 => ?_)
    split at h3
    · next c hc =>
      split at h3
      · next c' he =>
        split at h3
        · next s4 hp =>
          obtain ⟨a, o, rfl, g1, ro, k⟩ := R3.put (RepT.mono p3 x3 r2) hc hp
          unfold setL at he
          split at he
          · split at he
            · next q hq =>
              cases he
              obtain ⟨ws, rfl, r⟩ := ro
              refine ⟨a, ws, _, q, rfl, r3, g1, by rw [r.length]; exact hq, ?_⟩
              exact h3 ρ3 F3 σ _ (rfP ρ3) (rfX F3) (k _ ⟨_, rfl, r.set ((ry.mono p2 x2).mono p3 x3) q⟩ trivial)
            · cases he
          · cases he
        · exact h3.elim
      · exact h3.elim
    · exact h3.elim
def putKs : List Key → List D → Key → D → List Key × List D
  | k :: ks, d :: ds, j, e => if k = j then (k :: ks, e :: ds) else (k :: (putKs ks ds j e).1, d :: (putKs ks ds j e).2)
  | ks, ds, j, e => (ks ++ [j], ds ++ [e])
def setD (c i e : D) : Option D := match c, keyD i with
  | .dct ks ds, some k => if ks.Nodup ∧ ks.length < sizeLine then some (.dct (putKs ks ds k e).1 (putKs ks ds k e).2) else none
  | _, _ => none
theorem putK_eq (kvs : List (Key × V)) (k : Key) (v : V) : putK kvs k v = if (kvs.any fun kv => decide (kv.1 = k)) = true then kvs.map (fun kv => if kv.1 = k then (kv.1, v) else kv) else kvs ++ [(k, v)] := by
  unfold putK
  rfl
theorem map_same (k : Key) (v : V) : ∀ kvs : List (Key × V), k ∉ kvs.map (·.1) → kvs.map (fun kv => if kv.1 = k then (kv.1, v) else kv) = kvs
  | [], _ => rfl
  | (j, w) :: kvs, h => by
    simp only [List.map_cons, List.mem_cons, not_or] at h
    rw [List.map_cons, if_neg (fun z => h.1 z.symm), map_same k v kvs h.2]
theorem putK_cons {j : Key} {w : V} {kvs : List (Key × V)} {k : Key} {v : V} (hn : ((j, w) :: kvs |>.map (·.1)).Nodup) : putK ((j, w) :: kvs) k v = if j = k then (j, v) :: kvs else (j, w) :: putK kvs k v := by
  rw [putK_eq, putK_eq]
  simp only [List.map_cons, List.nodup_cons] at hn
  by_cases h : j = k
  · subst h
    rw [if_pos rfl, List.any_cons, decide_eq_true rfl, Bool.true_or, if_pos rfl, List.map_cons, if_pos rfl, map_same j v kvs hn.1]
  · rw [if_neg h, List.any_cons, decide_eq_false h, Bool.false_or]
    split
    · rw [List.map_cons, if_neg h]
    · rfl
theorem putKs_ok {k : Key} {e : D} {w : V} (re : Rep C ρ F e w) : ∀ {kvs : List (Key × V)} {ds : List D}, (kvs.map (·.1)).Nodup → RepL C ρ F ds (kvs.map (·.2)) → (putK kvs k w).map (·.1) = (putKs (kvs.map (·.1)) ds k e).1 ∧ RepL C ρ F (putKs (kvs.map (·.1)) ds k e).2 ((putK kvs k w).map (·.2))
  | [], [], _, _ => ⟨rfl, RepL.one re⟩
  | [], _ :: _, _, ⟨v, r, h, _⟩ => by simp at h
  | (n, u) :: kvs, [], _, h => by cases (show _ = [] from h)
  | (n, u) :: kvs, d :: ds, hn, ⟨v, r, h, hd, t⟩ => by
    simp only [List.map_cons, List.cons.injEq] at h
    obtain ⟨e1, e2⟩ := h
    subst e1 e2
    rw [putK_cons hn]
    simp only [List.map_cons, List.nodup_cons] at hn
    by_cases hj : n = k
    · simp only [putKs, List.map_cons, hj, if_true]
      exact ⟨trivial, w, _, rfl, re, t⟩
    · obtain ⟨g1, g2⟩ := putKs_ok re hn.2 t
      simp only [putKs, List.map_cons, if_neg hj]
      exact ⟨by rw [g1], u, _, rfl, hd, g2⟩
def mSetKey (mo mi mv : ME) : MS := fun s => (mv s).thenS fun v s1 => if isSlot v = true then .err else (mo s1).thenS fun d s2 => (mi s2).thenS fun j s3 => match cont s3 d, cont s3 j with
  | some c, some jc => match setD c jc v with
    | some c' => match putP s3 d c' with
      | some s4 => .nx s4
      | none => .err
    | none => .err
  | _, _ => .err
theorem rs_setKey {o j value : Expr} {mo mi mv : ME} {pos' : Pos} (hu : X.A.units + 1 < cLine) (ho : RE C X W o mo) (hj : RE C X W j mi) (hv : RE C X W value mv) (hs : swapsWith value (some (.Subscript o j pos')) pos.line X.env = pure false := by rfl) :
    RS C X W i (.Assign [.Subscript o j pos'] value pos) (mSetKey mo mi mv) := by
  obtain ⟨to, po, ko⟩ := ho
  obtain ⟨ti, pi, ki⟩ := hj
  obtain ⟨tv, pv, kv⟩ := hv
  refine ⟨_, ps_dput hu po pi pv hs, fun B ρ F σ H s D hi R h => ?_⟩
  refine kv B ρ F σ H s _ R (h.bind fun d s1 _ ρ1 F1 H1 y _ _ R1 r1 h1 => ?_)
  split at h1
  · exact h1.elim
  · next nv =>
    have ry := r1.rep (by simpa using nv)
    refine ko B ρ1 F1 σ H1 s1 _ R1 (h1.bind fun d2 s2 _ ρ2 F2 H2 x p2 x2 R2 r2 h2 => ?_)
    refine ki B ρ2 F2 σ H2 s2 _ R2 (h2.bind fun j s3 _ ρ3 F3 H3 z p3 x3 R3 r3 h3 => ?_)
    split at h3
    · next c jc hc hjc =>
      split at h3
      · next c' he =>
        split at h3
        · next s4 hp =>
          obtain ⟨a, o, rfl, g1, ro, k⟩ := R3.put (RepT.mono p3 x3 r2) hc hp
          have vj := R3.view r3 hjc
          unfold setD at he
          split at he
          · next ks ds q hq =>
            split at he
            · next hz =>
              cases he
              obtain ⟨kvs, rfl, rfl, r⟩ := ro
              obtain rfl := keyD_vw hq vj
              obtain ⟨q1, q2⟩ := putKs_ok (k := q) ((ry.mono p2 x2).mono p3 x3) hz.1 r
              exact ⟨a, _, rfl, DPut.k g1 (by simpa using hz.2), h3 ρ3 F3 σ _ (rfP ρ3) (rfX F3) (k _ ⟨_, rfl, q1, q2⟩ trivial)⟩
            · cases he
          · cases he
        · exact h3.elim
      · exact h3.elim
    · exact h3.elim
end
end ML
end
section
set_option Elab.async false
set_option linter.all false
set_option maxRecDepth 100000
set_option autoImplicit false
/-! ML13: defs, calls, instances made. -/
namespace ML
open PySem PySem.Spec PyProof.Rows L2
inductive Rt where
  | ok (d : D) (cs : List D)
  | exc (x : Xn) (cs : List D)
  | err
abbrev PF := List D → List D → Rt
mutual
/-- data without places -/
def clean : D → Bool
  | .lst ds => cleanL ds
  | .tup ds => cleanL ds
  | .dct _ ds => cleanL ds
  | .obj _ _ ds => cleanL ds
  | .cell _ => false
  | .slot _ => false
  | .scr _ => false
  | .exn _ _ _ _ _ => false
  | _ => true
def cleanL : List D → Bool
  | [] => true
  | d :: ds => clean d && cleanL ds
end
mutual
theorem Rep.clean {C : Ctx} {ρ ρ' : List Addr} {F : Hp} : ∀ {d : D} {v : V}, ML.clean d = true → Rep C ρ F d v → Rep C ρ' F d v
  | .non, _, _, h => h
  | .bl _, _, _, h => h
  | .int _, _, _, h => h
  | .str _, _, _, h => h
  | .lst ds, _, c, ⟨a, o, e, h, vs, e2, r⟩ => ⟨a, o, e, h, vs, e2, RepL.clean (by simpa [ML.clean] using c) r⟩
  | .tup ds, _, c, ⟨a, o, e, h, vs, e2, r⟩ => ⟨a, o, e, h, vs, e2, RepL.clean (by simpa [ML.clean] using c) r⟩
  | .dct ks ds, _, c, ⟨a, o, e, h, kvs, e2, k, r⟩ => ⟨a, o, e, h, kvs, e2, k, RepL.clean (by simpa [ML.clean] using c) r⟩
  | .obj _ ns ds, _, c, ⟨a, o, e, h, dx, fs, e2, k, r⟩ => ⟨a, o, e, h, dx, fs, e2, k, RepL.clean (by simpa [ML.clean] using c) r⟩
  | .cell n, _, c, _ => by simp [ML.clean] at c
  | .slot _, _, c, _ => by simp [ML.clean] at c
  | .scr ns, _, c, _ => by simp [ML.clean] at c
  | .exn _ _ _ _ _, _, c, _ => by simp [ML.clean] at c
theorem RepL.clean {C : Ctx} {ρ ρ' : List Addr} {F : Hp} : ∀ {ds : List D} {vs : List V}, cleanL ds = true → RepL C ρ F ds vs → RepL C ρ' F ds vs
  | [], _, _, h => h
  | d :: ds, _, c, ⟨v, r, e, h, t⟩ => by
    simp only [cleanL, Bool.and_eq_true] at c
    exact ⟨v, r, e, h.clean c.1, t.clean c.2⟩
end
theorem ObjR.clean {C : Ctx} {ρ ρ' : List Addr} {F : Hp} {d : D} {o : HO} (c : ML.clean d = true) (h : ObjR C ρ F d o) : ObjR C ρ' F d o := by
  cases d with
  | lst ds => obtain ⟨vs, e, r⟩ := h; exact ⟨vs, e, r.clean (by simpa [ML.clean] using c)⟩
  | tup ds => obtain ⟨vs, e, r⟩ := h; exact ⟨vs, e, r.clean (by simpa [ML.clean] using c)⟩
  | dct ks ds => obtain ⟨kvs, e, k, r⟩ := h; exact ⟨kvs, e, k, r.clean (by simpa [ML.clean] using c)⟩
  | obj c' ns ds => obtain ⟨dx, fs, e, k, r⟩ := h; exact ⟨dx, fs, e, k, r.clean (by simpa [ML.clean] using c)⟩
  | _ => exact h
/-- the base of a def that is called -/
def frBs (H F : Hp) (ρ : List Addr) : Bs := ⟨H, F, ρ, []⟩
def PostF (C : Ctx) (B : Bs) (r : Rt) (Q : VK) (E : XK) : Prop := match r with
  | .ok d cs => ∀ ρ' F' H' v, Rel C B ρ' F' [] H' ⟨[], cs⟩ → Rep C ρ' F' d v → Q v H'
  | .exc x cs => ∀ ρ' F' H' cls dd, Rel C B ρ' F' [] H' ⟨[], cs⟩ → XRep C ρ' F' x cls dd → E cls dd H'
  | .err => False
/-- a def's promise: it does what f does; n: how many parameters -/
def spF (C : Ctx) (n : Nat) (f : PF) : Sp := fun vs H Q E => vs.length = n ∧ ∃ ρ F ds cs, Rel C (frBs H F ρ) ρ F [] H ⟨[], cs⟩ ∧ RepL C ρ F ds vs ∧ PostF C (frBs H F ρ) (f ds cs) Q E
/-- a body, run -/
def runF (n : Nat) (b : MS) : PF := fun ds cs => match b ⟨ds.map Sl.fz ++ List.replicate (n - ds.length) Sl.no, cs⟩ with
  | .nx s => .ok .non s.cs
  | .rt d s => .ok d s.cs
  | .exc x s => .exc x s.cs
  | _ => .err
/-- what a field holds behind the making: a cell is frozen -/
def resD (cs : List D) : D → Option D
  | .cell k => match cs[k]? with
    | some c => if clean c = true then some c else none
    | none => none
  | d => if clean d = true then some d else none
def resL (cs : List D) : List D → Option (List D)
  | [] => some []
  | d :: ds => match resD cs d, resL cs ds with
    | some e, some r => some (e :: r)
    | _, _ => none
section
variable {C : Ctx} {B : Bs} {ρ ρ' : List Addr} {F F' : Hp} {σ : St} {H H' : Hp} {s : S}
theorem Rel.noenv (R : Rel C B ρ F σ H s) : Rel C B ρ F [] H ⟨[], s.cs⟩ :=
  ⟨R.sub, rfl, fun _ _ e => by simp at e, fun _ _ e => by simp at e, R.cl, R.cr, R.nd, R.pre, R.new, R.kept, R.there, R.f0, R.ff⟩
theorem Rel.enter {cs : List D} (R : Rel C B ρ F [] H ⟨[], cs⟩) {ds : List D} {vs : List V} (r : RepL C ρ F ds vs) (k : Nat) :
    Rel C B ρ F (vs.map some ++ List.replicate k none) H ⟨ds.map Sl.fz ++ List.replicate k Sl.no, cs⟩ := by
  refine ⟨R.sub, by simp [r.length], fun i d e => ?_, fun i d e => ?_, R.cl, R.cr, R.nd, R.pre, R.new, R.kept, R.there, R.f0, R.ff⟩
  · have e : (ds.map Sl.fz ++ List.replicate k Sl.no)[i]? = some (.fz d) := e
    by_cases hl : i < ds.length
    · rw [List.getElem?_append_left (by simpa using hl), List.getElem?_map, List.getElem?_eq_getElem hl] at e
      simp only [Option.map_some, Option.some.injEq, Sl.fz.injEq] at e
      obtain ⟨v, ev, rv⟩ := r.get (List.getElem?_eq_getElem hl)
      refine ⟨v, ?_, e ▸ rv⟩
      rw [List.getElem?_append_left (by simp [r.length, hl]), List.getElem?_map, ev]
      rfl
    · rw [List.getElem?_append_right (by simpa using hl), List.getElem?_replicate] at e
      split at e <;> cases e
  · have e : (ds.map Sl.fz ++ List.replicate k Sl.no)[i]? = some (.ow d) := e
    by_cases hl : i < ds.length
    · rw [List.getElem?_append_left (by simpa using hl), List.getElem?_map, List.getElem?_eq_getElem hl] at e
      simp at e
    · rw [List.getElem?_append_right (by simpa using hl), List.getElem?_replicate] at e
      split at e <;> cases e
/-- a def of the text does what its body's reading does -/
theorem fn_okF {P : Program} {w : World} {mg : Str → Option Value} {base : Heap} {x qual : Str} {params : Arguments} {body : List Stmt} {scope : Scope} {dvs : List V} {kws : List (Str × V)} {f : Addr} {fd : FuncData} {N ps : List Str} {k : Nat} {b : MS}
    (Fd : FunD C.K x qual params body scope dvs kws f fd) (Sc : FnScope N ps scope)
    (hb : ∀ (cdv : Value) (A : Around) (outer : List Env) (s : Shared) (H : Hp) (E : XK), Room k (A.deeper (envOfC qual scope s.heap.objs.size f cdv)) →
      RSs C (cxOf (L2.CX P w) P w C.K mg base N qual scope f cdv A outer s H E) (fun cls d _ H => E cls d H) false body b) :
    FnOk P w C.K mg base (L2.CX P w) (k + 1) f fd ps (spF C ps.length (runF N.length b)) := by
  refine Fd.ok Sc (fun vs H Q E h => h.1) fun cdv A outer s H vs Q E hr h => ?_
  obtain ⟨hl, ρ, F, ds, cs, R, r, h⟩ := h
  obtain ⟨t, p, K⟩ := hb cdv A outer s H E hr
  refine ⟨t, p, ?_⟩
  have R2 := R.enter r (N.length - vs.length)
  have hk : N.length - vs.length = N.length - ds.length := by rw [r.length]
  refine K (frBs H F ρ) ρ F _ H ⟨ds.map Sl.fz ++ List.replicate (N.length - ds.length) Sl.no, cs⟩ _ (fun _ => rfl) (by rw [← hk]; exact R2) ?_
  unfold runF at h
  cases q : b ⟨ds.map Sl.fz ++ List.replicate (N.length - ds.length) Sl.no, cs⟩ with
  | nx s' => rw [q] at h; exact fun ρ' F' σ' H' _ _ R' => h ρ' F' H' .non R'.noenv rfl
  | rt d s' => rw [q] at h; exact fun ρ' F' σ' H' v _ _ R' rv => h ρ' F' H' v R'.noenv rv
  | exc x s' => rw [q] at h; exact fun ρ' F' σ' H' cls dd _ _ R' rx => h ρ' F' H' cls dd R'.noenv rx
  | bk s' => rw [q] at h; exact h.elim
  | ct s' => rw [q] at h; exact h.elim
  | err => rw [q] at h; exact h.elim
/-! ### behind a call -/
theorem Rel.after {cs' : List D} (R : Rel C B ρ F σ H s) (T : Rel C (frBs H F ρ) ρ' F' [] H' ⟨[], cs'⟩) : Rel C B ρ' F' σ H' { s with cs := cs' } := by
  refine ⟨T.sub, R.len, fun i d e => ?_, fun i d e => ?_, T.cl, T.cr, T.nd, R.pre.trans T.pre, fun n a hl e => ?_, fun a o e n1 n2 => ?_, fun a o e => ?_, R.f0.trans T.f0, fun a o e => ?_⟩
  · obtain ⟨v, e1, r⟩ := R.fz i d e
    exact ⟨v, e1, r.mono T.pre T.f0⟩
  · obtain ⟨a, o, e1, e2, e3, e4, r, m, e5, e6⟩ := R.ow i d e
    have hk : H' a = some o := T.kept a o e4 e5 List.not_mem_nil
    refine ⟨a, o, e1, ?_, e3, hk, r.mono T.pre T.f0, m, fun z => ?_, e6⟩
    · cases q : F' a with
      | none => rfl
      | some u =>
        rcases T.ff a u q with e | e
        · rw [show F a = some u from e] at e2; cases e2
        · rw [show H a = none from e] at e4; cases e4
    · obtain ⟨n, hn⟩ := List.getElem?_of_mem z
      by_cases hl : n < ρ.length
      · obtain ⟨t, ht⟩ := T.pre
        have ht : ρ ++ t = ρ' := ht
        rw [← ht, List.getElem?_append_left hl] at hn
        exact e5 (List.mem_of_getElem? hn)
      · have := T.new n a (by show ρ.length ≤ n; omega) hn
        rw [show H a = none from this] at e4; cases e4
  · by_cases hl2 : n < ρ.length
    · obtain ⟨t, ht⟩ := T.pre
      have ht : ρ ++ t = ρ' := ht
      rw [← ht, List.getElem?_append_left hl2] at e
      exact R.new n a hl e
    · exact (R.fresh (T.new n a (by show ρ.length ≤ n; omega) e)).2.1
  · refine T.kept a o (R.kept a o e n1 n2) (fun z => ?_) List.not_mem_nil
    obtain ⟨n, hn⟩ := List.getElem?_of_mem (show a ∈ ρ from z)
    by_cases hl : n < B.ρ0.length
    · obtain ⟨t, ht⟩ := R.pre
      rw [← ht, List.getElem?_append_left hl] at hn
      exact n1 (List.mem_of_getElem? hn)
    · rw [R.new n a (by omega) hn] at e; cases e
  · obtain ⟨o', e'⟩ := R.there a o e
    exact T.there a o' e'
  · rcases T.ff a o e with e | e
    · exact R.ff a o e
    · exact .inr (R.fresh e).2.1
/-- the heap has grown, nothing else -/
theorem Rel.ext (R : Rel C B ρ F σ H s) (hx : Ex H H') (hf : Ex F F') (hs : Ex F' H') (ff : ∀ a o, F' a = some o → F a = some o ∨ H a = none) : Rel C B ρ F' σ H' s := by
  have nf : ∀ a o, F a = none → H a = some o → F' a = none := fun a o h1 h2 => by
    cases q : F' a with
    | none => rfl
    | some u =>
      rcases ff a u q with e | e
      · rw [h1] at e; cases e
      · rw [h2] at e; cases e
  refine ⟨hs, R.len, fun i d e => ?_, fun i d e => ?_, R.cl, fun n d a e1 e2 => ?_, R.nd, R.pre, R.new, fun a o e n1 n2 => hx _ _ (R.kept a o e n1 n2), fun a o e => ?_, R.f0.trans hf, fun a o e => ?_⟩
  · obtain ⟨v, e1, r⟩ := R.fz i d e
    exact ⟨v, e1, r.mono (rfP ρ) hf⟩
  · obtain ⟨a, o, e1, e2, e3, e4, r, m, e5, e6⟩ := R.ow i d e
    exact ⟨a, o, e1, nf a o e2 e4, e3, hx _ _ e4, r.mono (rfP ρ) hf, m, e5, e6⟩
  · obtain ⟨o, e3, e4, r, m⟩ := R.cr n d a e1 e2
    exact ⟨o, nf a o e3 e4, hx _ _ e4, r.mono (rfP ρ) hf, m⟩
  · obtain ⟨o', e'⟩ := R.there a o e
    exact ⟨o', hx _ _ e'⟩
  · rcases ff a o e with e | e
    · exact R.ff a o e
    · exact .inr (R.fresh e).2.1
theorem Rel.bare (hs : Ex F H) : Rel C (frBs H F []) [] F [] H ⟨[], []⟩ :=
  ⟨hs, rfl, fun _ _ e => by simp at e, fun _ _ e => by simp at e, rfl, fun _ _ _ e => by simp at e, List.nodup_nil, List.prefix_refl _, fun _ _ _ e => by simp at e, fun _ _ e _ _ => e, fun a o e => ⟨o, e⟩, Ex.refl _, fun _ _ e => .inl e⟩
/-- the objects that slots own, lent -/
def lent (F : Hp) (σ : St) (H : Hp) (s : S) : Hp := fun a => if a ∈ owns σ s then H a else F a
theorem lent_ex (R : Rel C B ρ F σ H s) : Ex F (lent F σ H s) ∧ Ex (lent F σ H s) H := by
  refine ⟨fun a o e => ?_, fun a o e => ?_⟩
  · unfold lent
    rw [if_neg fun z => ?_]
    · exact e
    · obtain ⟨i, d, g1, g2⟩ := of_owns z
      obtain ⟨b, u, f1, f2, _⟩ := R.ow i d g1
      rw [g2] at f1
      cases f1
      rw [e] at f2
      cases f2
  · unfold lent at e
    split at e
    · exact e
    · exact R.sub _ _ e
/-- arguments by value: a slot that owns is lent -/
def lend (s : S) : List D → Option (List D × Bool)
  | [] => some ([], false)
  | .slot i :: ds => match s.env[i]?, lend s ds with
    | some (.ow c), some (r, _) => if clean c = true then some (c :: r, true) else none
    | _, _ => none
  | d :: ds => if clean d = true then match lend s ds with
      | some (r, b) => some (d :: r, b)
      | none => none
    else none
theorem lend_ok (R : Rel C B ρ F σ H s) : ∀ {ds ds' : List D} {b : Bool} {vs : List V}, RepTL C ρ F σ ds vs → lend s ds = some (ds', b) → RepL C [] (if b = true then lent F σ H s else F) ds' vs
  | [], _, _, _, h, e => by cases e; exact h
  | d :: ds, ds', b, _, ⟨v, r, ev, h, t⟩, e => by
    subst ev
    by_cases hd : isSlot d = true
    · cases d with
      | slot i =>
        simp only [lend] at e
        split at e
        · next c r' b' e1 e2 =>
          split at e
          · next hc =>
            cases e
            rw [if_pos rfl]
            have ih := lend_ok R t e2
            obtain ⟨a, o, g1, g2, _, g4, gr, _⟩ := R.ow i c e1
            have e3 : σ[i]? = some (some v) := h
            rw [g1] at e3
            cases e3
            have hm : lent F σ H s a = some o := by
              unfold lent
              rw [if_pos (mem_owns e1 g1)]
              exact g4
            refine ⟨.ref a, r, rfl, (rep_box (objR_box gr)).mpr ⟨a, o, rfl, hm, (gr.mono (rfP ρ) (lent_ex R).1).clean hc⟩, ?_⟩
            cases b' with
            | true => rw [if_pos rfl] at ih; exact ih
            | false => rw [if_neg Bool.false_ne_true] at ih; exact ih.mono (rfP []) (lent_ex R).1
          · cases e
        · cases e
      | _ => cases hd
    · have hd : isSlot d = false := by simpa using hd
      have e : (if clean d = true then match lend s ds with
        | some (r, b) => some (d :: r, b)
        | none => none else none) = some (ds', b) := by
        cases d <;> first | exact e | cases hd
      split at e
      · next hc =>
        split at e
        · next r' b' e2 =>
          cases e
          have ih := lend_ok R t e2
          refine ⟨v, r, rfl, ?_, ih⟩
          have rd := (h.rep hd).clean (ρ' := []) hc
          cases b with
          | true => rw [if_pos rfl]; exact rd.mono (rfP []) (lent_ex R).1
          | false => rw [if_neg Bool.false_ne_true]; exact rd
        · cases e
      · cases e
theorem resD_ok {cs : List D} {F2 : Hp} (T : Rel C B ρ F [] H ⟨[], cs⟩) (hx : Ex F F2) (hc : ∀ a o, a ∈ ρ → H a = some o → F2 a = some o) {d e : D} {v : V} (h : resD cs d = some e) (r : Rep C ρ F d v) : Rep C [] F2 e v := by
  by_cases hd : ∃ k, d = .cell k
  · obtain ⟨k, rfl⟩ := hd
    obtain ⟨a, rfl, ha⟩ := r
    simp only [resD] at h
    split at h
    · next c hk =>
      split at h
      · next hcl =>
        cases h
        obtain ⟨o, _, g2, ro, _⟩ := T.cr k _ a hk ha
        exact (rep_box (objR_box ro)).mpr ⟨a, o, rfl, hc a o (List.mem_of_getElem? ha) g2, (ro.mono (rfP ρ) hx).clean hcl⟩
      · cases h
    · cases h
  · have h : (if clean d = true then some d else none) = some e := by
      cases d <;> first | exact h | exact (hd ⟨_, rfl⟩).elim
    split at h
    · next hcl =>
      cases h
      exact (r.mono (rfP ρ) hx).clean hcl
    · cases h
theorem resL_ok {cs : List D} {F2 : Hp} (T : Rel C B ρ F [] H ⟨[], cs⟩) (hx : Ex F F2) (hc : ∀ a o, a ∈ ρ → H a = some o → F2 a = some o) : ∀ {ds es : List D} {vs : List V}, resL cs ds = some es → RepL C ρ F ds vs → RepL C [] F2 es vs
  | [], es, vs, h, r => by cases h; exact r
  | d :: ds, es, _, h, ⟨v, r, e, hd, t⟩ => by
    subst e
    simp only [resL] at h
    split at h
    · next e1 e2 h1 h2 =>
      cases h
      exact ⟨v, r, rfl, resD_ok T hx hc h1 hd, resL_ok T hx hc h2 t⟩
    · cases h
/-- what comes back of a call by values -/
def back0 (b : Bool) (r : Rt) (s : S) : R D := match r with
  | .ok d cs => if b = true then (if flatB d = true then .ok d s else .err) else (match resD cs d with
    | some e => .ok e s
    | none => .err)
  | .exc x _ => if (if b = true then x.ns.isEmpty else cleanL x.ds) = true then .exc x s else .err
  | .err => .err
theorem flat_rep {d : D} {v : V} (h : flatB d = true) (r : Rep C ρ F d v) : Rep C ρ' F' d v := by
  cases d <;> first | exact r | cases h
theorem call0_ok {W : WX} {n : Nat} {f : PF} {ds : List D} {b : Bool} {vs : List V} {Q : VK} (R : Rel C B ρ F σ H s) (hn : vs.length = n) (r : RepL C [] (if b = true then lent F σ H s else F) ds vs)
    (h : Post C B W σ (repE C σ) ρ F (back0 b (f ds []) s) Q) : spF C n f vs H Q (WE W σ) := by
  have hs : Ex (if b = true then lent F σ H s else F) H := by
    cases b with
    | true => rw [if_pos rfl]; exact (lent_ex R).2
    | false => rw [if_neg Bool.false_ne_true]; exact R.sub
  refine ⟨hn, [], _, ds, [], Rel.bare hs, r, ?_⟩
  unfold back0 at h
  cases q : f ds [] with
  | err => rw [q] at h; exact h.elim
  | ok d cs =>
    rw [q] at h
    rintro ρ' F' H' v T rv
    have hk : Ex H H' := fun a o e => T.kept a o e List.not_mem_nil List.not_mem_nil
    cases b with
    | true =>
      have h : Post C B W σ (repE C σ) ρ F (if flatB d = true then .ok d s else .err) Q := h
      split at h
      · next hc => exact h.now (rfP ρ) (rfX F) (R.ext hk (rfX F) (R.sub.trans hk) fun _ _ e => .inl e) (RepT.of (flat_rep hc rv))
      · exact h.elim
    | false =>
      have h : Post C B W σ (repE C σ) ρ F (match resD cs d with
        | some e => .ok e s
        | none => .err) Q := h
      split at h
      · next e he =>
        let F2 : Hp := fun a => if a ∈ ρ' then H' a else F' a
        have x2 : Ex F' F2 := fun a o e => by
          show (if a ∈ ρ' then H' a else F' a) = some o
          split
          · exact T.sub _ _ e
          · exact e
        have s2 : Ex F2 H' := fun a o e => by
          have e : (if a ∈ ρ' then H' a else F' a) = some o := e
          split at e
          · exact e
          · exact T.sub _ _ e
        have c2 : ∀ a o, a ∈ ρ' → H' a = some o → F2 a = some o := fun a o m e => by
          show (if a ∈ ρ' then H' a else F' a) = some o
          rw [if_pos m]
          exact e
        have f2 : ∀ a o, F2 a = some o → F a = some o ∨ H a = none := fun a o e => by
          have e : (if a ∈ ρ' then H' a else F' a) = some o := e
          split at e
          · next m =>
            obtain ⟨k, hk⟩ := List.getElem?_of_mem m
            exact .inr (T.new k a (Nat.zero_le k) hk)
          · exact T.ff a o e
        have xf : Ex F F2 := fun a o e => x2 _ _ (T.f0 a o e)
        exact h.now (rfP ρ) xf (R.ext hk xf s2 f2) (RepT.of ((resD_ok T x2 c2 he rv).mono List.nil_prefix (rfX F2)))
      · exact h.elim
  | exc x cs =>
    rw [q] at h
    rintro ρ' F' H' cls dd T rx
    have hk : Ex H H' := fun a o e => T.kept a o e List.not_mem_nil List.not_mem_nil
    cases b with
    | true =>
      have h : Post C B W σ (repE C σ) ρ F (if x.ns.isEmpty = true then .exc x s else .err) Q := h
      split at h
      · next hc => exact h ρ F H' cls dd (rfP ρ) (rfX F) (R.ext hk (rfX F) (R.sub.trans hk) fun _ _ e => .inl e) ⟨rx.1, rx.2.elim .inl fun ⟨_, _, ⟨z, _⟩, _⟩ => absurd (List.isEmpty_iff.mp hc) z⟩
      · exact h.elim
    | false =>
      have h : Post C B W σ (repE C σ) ρ F (if cleanL x.ds = true then .exc x s else .err) Q := h
      split at h
      · next hc =>
        have xf : Ex F F' := T.f0
        refine h ρ F' H' cls dd (rfP ρ) xf (R.ext hk xf T.sub fun a o e => T.ff a o e) ⟨rx.1, ?_⟩
        rcases rx.2 with e | ⟨d, fs, e1, e2, e3, r2⟩
        · exact .inl e
        · exact .inr ⟨d, fs, e1, e2, e3, r2.clean hc⟩
      · exact h.elim
/-! ### the call of a def -/
theorem run_fnE {X : Cx} {W : WX} {k : Nat} {f : Addr} {fd : FuncData} {ps : List Str} {sp : Sp} {dvs : List V} {ds : List Value} {pins : List (Addr × Obj)} {sh : Shared} {Q : VK} {us : List Value} {vs : List V} (Fn : FnOk X.prog X.w X.K X.mg X.base (L2.CX X.prog X.w) k f fd ps sp) (hr : Room k X.A)
    (hb : Binds X.K fd ps ds) (hd : Vals dvs ds) (tk : Takes X W) (I : Inv X pins σ H sh) (r : Vals vs us) (h : sp (vs ++ dvs) H Q (WE W σ)) : wpAny (model X.prog X.w) X.A (call (.ref f) us) (EP X pins σ Q) X.xe sh := by
  have r2 := r.append hd
  have hl : (us ++ ds).length = ps.length := r2.length.symm.trans (Fn.len _ _ _ _ h)
  refine wpAny_call (codeAny_mono (Fn.run X.A X.stack sh H ⟨us, []⟩ (us ++ ds) (vs ++ dvs) Q (WE W σ) hr I.env0 (hb sh us I.kIn hl) r2 h) fun o s' hq => ?_)
  match o, hq with
  | .error e, hq => exact passAt tk σ pins H sh e s' I hq
  | .ok (.ret u), hq => exact I.after hq
  | .ok .next, hq => exact hq.elim
  | .ok .brk, hq => exact hq.elim
  | .ok .cont, hq => exact hq.elim
def tCallE (sp : Sp) (W : WX) (dvs : List V) (t : TA) : TE := fun σ H Q => t σ H fun vs H1 => sp (vs ++ dvs) H1 Q (WE W σ)
/-- what a caller must know of a def at the name x -/
structure Callee (C : Ctx) (X : Cx) (k : Nat) (n : Nat) (f : Addr) (m : PF) (dds : List D) : Prop where
  ok : ∃ (fd : FuncData) (ps : List Str) (dvs : List V) (ds : List Value), FnOk X.prog X.w X.K X.mg X.base (L2.CX X.prog X.w) k f fd ps (spF C n m) ∧ Binds X.K fd ps ds ∧ Vals dvs ds ∧ RepL C [] (fun _ => none) dds dvs
  kp : PySem.W.keepIn X.K (.ref f) = true
def mCall0 (m : PF) (dds : List D) (ma : MA) : ME := fun s => (ma s).bind fun ds s1 => match lend s1 ds with
  | some (ds', b) => back0 b (m (ds' ++ dds) []) s1
  | none => .err
def backC (r : Rt) (s : S) : R D := match r with
  | .ok d cs => .ok d { s with cs := cs }
  | .exc x cs => .exc x { s with cs := cs }
  | .err => .err
def mCall (m : PF) (dds : List D) (ma : MA) : ME := fun s => (ma s).bind fun ds s1 => if noSlots ds = true then backC (m (ds ++ dds) s1.cs) s1 else .err
theorem callC_ok {W : WX} {n : Nat} {f : PF} {ds : List D} {vs : List V} {Q : VK} (R : Rel C B ρ F σ H s) (hn : vs.length = n) (r : RepL C ρ F ds vs)
    (h : Post C B W σ (repE C σ) ρ F (backC (f ds s.cs) s) Q) : spF C n f vs H Q (WE W σ) := by
  have RB : Rel C (frBs H F ρ) ρ F [] H ⟨[], s.cs⟩ := by
    refine ⟨R.sub, rfl, fun _ _ e => by simp at e, fun _ _ e => by simp at e, R.cl, R.cr, R.nd, List.prefix_refl _, fun n a hl e => ?_, fun _ _ e _ _ => e, fun a o e => ⟨o, e⟩, Ex.refl _, fun _ _ e => .inl e⟩
    have := (List.getElem?_eq_some_iff.mp e).1
    have hl2 : ρ.length ≤ n := hl
    omega
  refine ⟨hn, ρ, F, ds, s.cs, RB, r, ?_⟩
  unfold backC at h
  cases q : f ds s.cs with
  | err => rw [q] at h; exact h.elim
  | ok d cs =>
    rw [q] at h
    rintro ρ' F' H' v T rv
    exact h.now T.pre T.f0 (R.after T) (RepT.of rv)
  | exc x cs =>
    rw [q] at h
    rintro ρ' F' H' cls dd T rx
    exact h ρ' F' H' cls dd T.pre T.f0 (R.after T) rx
section
variable {X : Cx} {W : WX} {pos p : Pos} {e : Expr} {es : List Expr} {x : Str} {ma : MA} {k n : Nat} {f : Addr} {m : PF} {dds : List D}
theorem tCall0_ok {t : TA} {dvs : List V} (hd : RepL C [] (fun _ => none) dds dvs)
    (hlen : ∀ vs H Q E, spF C n m vs H Q E → True)
    (ka : ∀ (B : Bs) (ρ : List Addr) (F : Hp) (σ : St) (H : Hp) (s : S) (Q : List V → Hp → Prop), Rel C B ρ F σ H s → Post C B W σ (repA C σ) ρ F (ma s) Q → t σ H Q) (hna : ∀ s ds s', ma s = .ok ds s' → ds.length + dds.length = n)
    (B : Bs) (ρ : List Addr) (F : Hp) (σ : St) (H : Hp) (s : S) (Q : VK) (R : Rel C B ρ F σ H s) (h : Post C B W σ (repE C σ) ρ F (mCall0 m dds ma s) Q) : tCallE (spF C n m) W dvs t σ H Q := by
  refine ka B ρ F σ H s _ R (h.bind fun ds s1 e1 ρ1 F1 H1 vs _ _ R1 r1 h1 => ?_)
  split at h1
  · next ds' b hl =>
    have r2 := lend_ok R1 r1 hl
    refine call0_ok R1 ?_ (r2.append (hd.mono (rfP []) fun _ _ z => by cases z)) h1
    rw [List.length_append, RepTL.length r1, hd.length]
    exact hna _ _ _ e1
  · exact h1.elim
theorem tCallC_ok {t : TA} {dvs : List V} (hd : RepL C [] (fun _ => none) dds dvs)
    (ka : ∀ (B : Bs) (ρ : List Addr) (F : Hp) (σ : St) (H : Hp) (s : S) (Q : List V → Hp → Prop), Rel C B ρ F σ H s → Post C B W σ (repA C σ) ρ F (ma s) Q → t σ H Q) (hna : ∀ s ds s', ma s = .ok ds s' → ds.length + dds.length = n)
    (B : Bs) (ρ : List Addr) (F : Hp) (σ : St) (H : Hp) (s : S) (Q : VK) (R : Rel C B ρ F σ H s) (h : Post C B W σ (repE C σ) ρ F (mCall m dds ma s) Q) : tCallE (spF C n m) W dvs t σ H Q := by
  refine ka B ρ F σ H s _ R (h.bind fun ds s1 e1 ρ1 F1 H1 vs _ _ R1 r1 h1 => ?_)
  split at h1
  · next hl =>
    refine callC_ok R1 ?_ ((r1.rep hl).append ((hd.mono (List.nil_prefix) fun _ _ z => by cases z))) h1
    rw [List.length_append, RepTL.length r1, hd.length]
    exact hna _ _ _ e1
  · exact h1.elim
/-- how many arguments come -/
def arity : Nat → MA → Prop := fun n ma => ∀ s ds s', ma s = .ok ds s' → ds.length = n
theorem arity_nil : arity 0 mNil := fun s ds s' e => by cases e; rfl
theorem arity_cons {a : ME} {r : MA} {n : Nat} (h : arity n r) : arity (n + 1) (mCons a r) := fun s ds s' e => by
  unfold mCons at e
  cases q : a s with
  | ok d s1 =>
    rw [q] at e
    have e : ((r s1).bind fun ds s2 => R.ok (d :: ds) s2) = .ok ds s' := e
    cases q2 : r s1 with
    | ok ds2 s2 =>
      rw [q2] at e
      cases e
      simp [h _ _ _ q2]
    | exc x s2 => rw [q2] at e; cases e
    | err => rw [q2] at e; cases e
  | exc x s1 => rw [q] at e; cases e
  | err => rw [q] at e; cases e
theorem pe_callE {fd : FuncData} {ps : List Str} {sp : Sp} {dvs : List V} {ds : List Value} {t : TA} (Fn : FnOk X.prog X.w X.K X.mg X.base (L2.CX X.prog X.w) k f fd ps sp) (hr : Room k X.A) (hg : Gl X x) (hm : X.mg x = some (.ref f)) (hk : PySem.W.keepIn X.K (.ref f) = true)
    (hb : Binds X.K fd ps ds) (hd : Vals dvs ds) (tk : Takes X W) (pa : PA X (e :: es) t) (hdb : (x == ("__debug__" : Str)) = false) (he : starEach (e :: es) X.env = (false, eval e X.env) :: starEach es X.env) (hpl : (backTo pos (starEach es X.env)).any (·.1) = false) :
    PE X (.Call (.Name x p) (e :: es) [] pos) (tCallE sp W dvs t) := by
  refine ⟨fun pins s σ H Q I h => wpAny_Call_Name_kw (ld_glob I hg hm ?_ hdb)⟩
  refine PySem.W.callWith_K (h₀ := X.base) I.ok.mod.kin hk (thn (pa.run pos pins s σ H _ I h) fun us s1 ⟨vs, H1, I1, r, q⟩ => ⟨I1.kIn, ?_⟩) he hpl
  exact run_fnE Fn hr hb hd tk I1 r q
theorem re_call0 {j : Nat} (Ce : Callee C X k n f m dds) (hr : Room k X.A) (hg : Gl X x) (hm : X.mg x = some (.ref f)) (tk : Takes X W) (ha : RA C X W (e :: es) ma) (har : arity j ma) (hj : j + dds.length = n) (hdb : (x == ("__debug__" : Str)) = false := by decide)
    (he : starEach (e :: es) X.env = (false, eval e X.env) :: starEach es X.env := by rfl) (hpl : (backTo pos (starEach es X.env)).any (·.1) = false := by rfl) : RE C X W (.Call (.Name x p) (e :: es) [] pos) (mCall0 m dds ma) := by
  obtain ⟨ta, pa, ka⟩ := ha
  obtain ⟨fd, ps, dvs, ds, Fn, hb, hd, hr2⟩ := Ce.ok
  exact ⟨_, pe_callE Fn hr hg hm Ce.kp hb hd tk pa hdb he hpl, tCall0_ok hr2 (fun _ _ _ _ _ => trivial) ka fun s ds s' e => by rw [har s ds s' e]; exact hj⟩
theorem re_call {j : Nat} (Ce : Callee C X k n f m dds) (hr : Room k X.A) (hg : Gl X x) (hm : X.mg x = some (.ref f)) (tk : Takes X W) (ha : RA C X W (e :: es) ma) (har : arity j ma) (hj : j + dds.length = n) (hdb : (x == ("__debug__" : Str)) = false := by decide)
    (he : starEach (e :: es) X.env = (false, eval e X.env) :: starEach es X.env := by rfl) (hpl : (backTo pos (starEach es X.env)).any (·.1) = false := by rfl) : RE C X W (.Call (.Name x p) (e :: es) [] pos) (mCall m dds ma) := by
  obtain ⟨ta, pa, ka⟩ := ha
  obtain ⟨fd, ps, dvs, ds, Fn, hb, hd, hr2⟩ := Ce.ok
  exact ⟨_, pe_callE Fn hr hg hm Ce.kp hb hd tk pa hdb he hpl, tCallC_ok hr2 ka fun s ds s' e => by rw [har s ds s' e]; exact hj⟩
end
end
end ML
end
section
set_option Elab.async false
set_option linter.all false
set_option maxRecDepth 100000
set_option autoImplicit false
/-! ML14: instances made, own methods, calls without arguments. -/
namespace ML
open PySem PySem.Spec PyProof.Rows L2
def resO : List D → Option D
  | [] => none
  | c :: cs => match c with
    | .obj c' ns ds => match resL (c :: cs) ds with
      | some es => some (.obj c' ns es)
      | none => none
    | _ => none
def madeR (r : Rt) (s : S) : R D := match r with
  | .ok .non cs => match resO cs with
    | some d => .ok d s
    | none => .err
  | .exc x _ => if cleanL x.ds = true then .exc x s else .err
  | _ => .err
def mMake0 (c : Nat) (m : PF) (dds : List D) (ma : MA) : ME := fun s => (ma s).bind fun ds s1 => if cleanL ds = true then madeR (m (.cell 0 :: (ds ++ dds)) [.obj c [] []]) s1 else .err
def madeC (r : Rt) (n : Nat) (s : S) : R D := match r with
  | .ok .non cs => .ok (.cell n) { s with cs := cs }
  | .exc x cs => .exc x { s with cs := cs }
  | _ => .err
def mMake (c : Nat) (m : PF) (dds : List D) (ma : MA) : ME := fun s => (ma s).bind fun ds s1 => if noSlots ds = true then madeC (m (.cell s1.cs.length :: (ds ++ dds)) (s1.cs ++ [.obj c [] []])) s1.cs.length s1 else .err
section
variable {C : Ctx} {B : Bs} {ρ ρ' : List Addr} {F F' : Hp} {σ : St} {H H' : Hp} {s : S}
theorem cleanL_noSlots : ∀ {ds : List D}, cleanL ds = true → noSlots ds = true
  | [], _ => rfl
  | d :: ds, h => by
    simp only [cleanL, Bool.and_eq_true] at h
    have := cleanL_noSlots h.2
    unfold noSlots at this ⊢
    rw [List.all_cons, this, Bool.and_true]
    cases d <;> first | rfl | (have := h.1; simp [clean] at this)
/-- the heaps at the making -/
theorem made_heap {x dx : Addr} {c : Nat} (hx : H x = none) (hd : H dx = none) (hne : dx ≠ x) : Ex H (upd (upd H dx (.own x)) x (.ins (C.cA c) dx [])) ∧ (upd H dx (.own x)) x = none := by
  have h2 : (upd H dx (.own x)) x = none := by rw [upd_ne (fun z => hne z.symm)]; exact hx
  exact ⟨(Ex.new hd).trans (Ex.new h2), h2⟩
theorem Rel.made {x dx : Addr} {c : Nat} (R : Rel C B ρ F σ H s) (hx : H x = none) (hd : H dx = none) (hne : dx ≠ x) : Rel C B (ρ ++ [x]) F σ (upd (upd H dx (.own x)) x (.ins (C.cA c) dx [])) { s with cs := s.cs ++ [.obj c [] []] } ∧ (ρ ++ [x])[s.cs.length]? = some x :=
  (R.free (o := .own x) hd).1.newCell (made_heap (C := C) (c := c) hx hd hne).2 (d := .obj c [] []) ⟨dx, [], rfl, rfl, rfl⟩ trivial
theorem Rel.base {cs : List D} (R : Rel C B ρ F σ H { s with cs := cs }) : Rel C (frBs H F ρ) ρ F [] H ⟨[], cs⟩ := by
  refine ⟨R.sub, rfl, fun _ _ e => by simp at e, fun _ _ e => by simp at e, R.cl, R.cr, R.nd, List.prefix_refl _, fun n a hl e => ?_, fun _ _ e _ _ => e, fun a o e => ⟨o, e⟩, Ex.refl _, fun _ _ e => .inl e⟩
  have := (List.getElem?_eq_some_iff.mp e).1
  have hl2 : ρ.length ≤ n := hl
  omega
theorem make_ok {W : WX} {n : Nat} {f : PF} {c : Nat} {ds : List D} {vs : List V} {Q : VK} {x dx : Addr} (R : Rel C B ρ F σ H s) (hn : vs.length + 1 = n) (r : RepL C ρ F ds vs) (hx : H x = none) (hd : H dx = none) (hne : dx ≠ x)
    (h : Post C B W σ (repE C σ) ρ F (madeC (f (.cell s.cs.length :: ds) (s.cs ++ [.obj c [] []])) s.cs.length s) Q) : spF C n f (.ref x :: vs) (upd (upd H dx (.own x)) x (.ins (C.cA c) dx [])) (fun v H2 => v = .non ∧ Q (.ref x) H2) (WE W σ) := by
  obtain ⟨R2, at_⟩ := R.made (c := c) hx hd hne
  refine ⟨by simpa using hn, ρ ++ [x], F, .cell s.cs.length :: ds, s.cs ++ [.obj c [] []], R2.base, ⟨.ref x, vs, rfl, ⟨x, rfl, at_⟩, r.mono (List.prefix_append _ _) (rfX F)⟩, ?_⟩
  cases q : f (.cell s.cs.length :: ds) (s.cs ++ [.obj c [] []]) with
  | err => rw [q] at h; exact h.elim
  | ok d cs =>
    rw [q] at h
    rintro ρ' F' H' v T rv
    cases d with
    | non =>
      refine ⟨rv, h.now ((List.prefix_append _ _).trans T.pre) T.f0 (R2.after T) ?_⟩
      exact ⟨x, rfl, pre_get T.pre at_⟩
    | _ => exact h.elim
  | exc z cs =>
    rw [q] at h
    rintro ρ' F' H' cls dd T rx
    exact h ρ' F' H' cls dd ((List.prefix_append _ _).trans T.pre) T.f0 (R2.after T) rx
theorem make0_ok {W : WX} {n : Nat} {f : PF} {c : Nat} {ds : List D} {vs : List V} {Q : VK} {x dx : Addr} (R : Rel C B ρ F σ H s) (hn : vs.length + 1 = n) (r : RepL C [] F ds vs) (hx : H x = none) (hd : H dx = none) (hne : dx ≠ x)
    (h : Post C B W σ (repE C σ) ρ F (madeR (f (.cell 0 :: ds) [.obj c [] []]) s) Q) : spF C n f (.ref x :: vs) (upd (upd H dx (.own x)) x (.ins (C.cA c) dx [])) (fun v H2 => v = .non ∧ Q (.ref x) H2) (WE W σ) := by
  have R0 : Rel C (frBs H F []) [] F [] H ⟨[], []⟩ := Rel.bare R.sub
  obtain ⟨R1, _⟩ := R0.made (c := c) hx hd hne
  have R2 := Rel.base (s := ⟨[], []⟩) R1
  obtain ⟨xh, _⟩ := made_heap (C := C) (c := c) hx hd hne
  refine ⟨by simpa using hn, [x], F, .cell 0 :: ds, [.obj c [] []], R2, ⟨.ref x, vs, rfl, ⟨x, rfl, rfl⟩, r.mono List.nil_prefix (rfX F)⟩, ?_⟩
  cases q : f (.cell 0 :: ds) [.obj c [] []] with
  | err => rw [q] at h; exact h.elim
  | ok d cs =>
    rw [q] at h
    rintro ρ' F' H' v T rv
    cases d with
    | non =>
      refine ⟨rv, ?_⟩
      have h : Post C B W σ (repE C σ) ρ F (match resO cs with
        | some d => .ok d s
        | none => .err) Q := h
      split at h
      · next d hd2 =>
        have hh : Ex H H' := fun a o e => T.kept a o (xh _ _ e) (fun z => by
          have : a = x := List.mem_singleton.mp z
          rw [this, hx] at e; cases e) List.not_mem_nil
        let F2 : Hp := fun a => if a ∈ ρ' then H' a else F' a
        have x2 : Ex F' F2 := fun a o e => by
          show (if a ∈ ρ' then H' a else F' a) = some o
          split
          · exact T.sub _ _ e
          · exact e
        have s2 : Ex F2 H' := fun a o e => by
          have e : (if a ∈ ρ' then H' a else F' a) = some o := e
          split at e
          · exact e
          · exact T.sub _ _ e
        have c2 : ∀ a o, a ∈ ρ' → H' a = some o → F2 a = some o := fun a o m e => by
          show (if a ∈ ρ' then H' a else F' a) = some o
          rw [if_pos m]
          exact e
        have f2 : ∀ a o, F2 a = some o → F a = some o ∨ H a = none := fun a o e => by
          have e : (if a ∈ ρ' then H' a else F' a) = some o := e
          split at e
          · next m =>
            obtain ⟨k, hk⟩ := List.getElem?_of_mem m
            right
            by_cases h0 : k < 1
            · have hk0 : k = 0 := by omega
              subst hk0
              rw [pre_get T.pre (show [x][0]? = some x from rfl)] at hk
              cases hk
              exact hx
            · exact xh.back (T.new k a (by show 1 ≤ k; omega) hk)
          · rcases T.ff a o e with e | e
            · exact .inl e
            · exact .inr (xh.back e)
        refine h.now (rfP ρ) (T.f0.trans x2) (R.ext hh (T.f0.trans x2) s2 f2) (RepT.of ?_)
        cases cs with
        | nil => cases hd2
        | cons c0 cs =>
          cases c0 with
          | obj c' ns es =>
            simp only [resO] at hd2
            split at hd2
            · next es2 he =>
              cases hd2
              obtain ⟨o, _, g2, ⟨dx', fs, e2, e3, rf⟩, _⟩ := T.cr 0 (.obj c' ns es) x rfl (pre_get T.pre (show [x][0]? = some x from rfl))
              exact ⟨x, o, rfl, c2 x o (List.mem_of_getElem? (pre_get T.pre (show [x][0]? = some x from rfl))) g2, dx', fs, e2, e3, (resL_ok T x2 c2 he rf).mono List.nil_prefix (rfX F2)⟩
            · cases hd2
          | _ => cases hd2
      · exact h.elim
    | _ => exact h.elim
  | exc z cs =>
    rw [q] at h
    rintro ρ' F' H' cls dd T rx
    have h : Post C B W σ (repE C σ) ρ F (if cleanL z.ds = true then .exc z s else .err) Q := h
    split at h
    · next hc =>
      have hh : Ex H H' := fun a o e => T.kept a o (xh _ _ e) (fun z => by
        have : a = x := List.mem_singleton.mp z
        rw [this, hx] at e; cases e) List.not_mem_nil
      have ff : ∀ a o, F' a = some o → F a = some o ∨ H a = none := fun a o e => (T.ff a o e).imp id fun e => xh.back e
      refine h ρ F' H' cls dd (rfP ρ) T.f0 (R.ext hh T.f0 T.sub ff) ⟨rx.1, ?_⟩
      rcases rx.2 with e | ⟨d, fs, e1, e2, e3, r2⟩
      · exact .inl e
      · exact .inr ⟨d, fs, e1, e2, e3, r2.clean hc⟩
    · exact h.elim
/-! ### the calls themselves -/
/-- what a caller must know of a class that is made -/
structure Maker (C : Ctx) (X : Cx) (k : Nat) (n : Nat) (c : Nat) (m : PF) (dds : List D) : Prop where
  ok : ∃ (f : Addr) (fd : FuncData) (ps : List Str) (dvs : List V) (ds : List Value), Mk X.K (C.cA c) f ∧ FnOk X.prog X.w X.K X.mg X.base (L2.CX X.prog X.w) k f fd ps (spF C n m) ∧ Binds X.K fd ps ds ∧ Vals dvs ds ∧ RepL C [] (fun _ => none) dds dvs
/-- what a caller must know of a class's method -/
structure Method (C : Ctx) (X : Cx) (k : Nat) (n : Nat) (c : Nat) (nm : Str) (m : PF) (dds : List D) : Prop where
  ok : ∃ (f : Addr) (fd : FuncData) (ps : List Str) (dvs : List V) (ds : List Value), Cls X.K (C.cA c) ∧ Meth X.K (C.cA c) nm f ∧ FnOk X.prog X.w X.K X.mg X.base (L2.CX X.prog X.w) k f fd ps (spF C n m) ∧ Binds X.K fd ps ds ∧ Vals dvs ds ∧ RepL C [] (fun _ => none) dds dvs
section
variable {X : Cx} {W : WX} {pos p apos : Pos} {e o : Expr} {es : List Expr} {x nm : Str} {ma : MA} {mo : ME} {k n c : Nat} {f : Addr} {m : PF} {dds : List D}
theorem run_makeE {cA : Addr} {fd : FuncData} {ps : List Str} {sp : Sp} {dvs : List V} {ds : List Value} {pins : List (Addr × Obj)} {sh : Shared} {Q : VK} {us : List Value} {vs : List V} (M : Mk X.K cA f) (Fn : FnOk X.prog X.w X.K X.mg X.base (L2.CX X.prog X.w) k f fd ps sp) (hr : Room (k + 1) X.A)
    (hb : Binds X.K fd ps ds) (hd : Vals dvs ds) (tk : Takes X W) (I : Inv X pins σ H sh) (r : Vals vs us)
    (h : ∀ x dx, H x = none → H dx = none → dx ≠ x → sp (.ref x :: (vs ++ dvs)) (upd (upd H dx (.own x)) x (.ins cA dx [])) (fun v H2 => v = .non ∧ Q (.ref x) H2) (WE W σ)) : wpAny (model X.prog X.w) X.A (call (.ref cA) us) (EP X pins σ Q) X.xe sh := by
  have hq := h (sh.heap.objs.size + 1) sh.heap.objs.size (I.hok.fresh (Nat.le_succ _)) (I.hok.fresh (Nat.le_refl _)) (Nat.ne_of_lt (Nat.lt_succ_self _))
  have I2 := Inv.made (C := cA) I
  have r2 : Vals (V.ref (sh.heap.objs.size + 1) :: (vs ++ dvs)) (Value.ref (sh.heap.objs.size + 1) :: (us ++ ds)) := .cons rfl (r.append hd)
  have hl : (Value.ref (sh.heap.objs.size + 1) :: us ++ ds).length = ps.length := r2.length.symm.trans (Fn.len _ _ _ _ hq)
  refine wpAny_call (make_map (f := f) I.kIn M.makes M.init (beq_iff_eq.mp M.fn) (codeAny_mono (Fn.run _ X.stack _ _ ⟨Value.ref (sh.heap.objs.size + 1) :: us, []⟩ (Value.ref (sh.heap.objs.size + 1) :: (us ++ ds)) _ _ (WE W σ) (hr.make cA us [])
    (I2.env0.make cA us []) (hb _ (Value.ref (sh.heap.objs.size + 1) :: us) I2.kIn hl) r2 hq) fun o s' hq' => ?_))
  match o, hq' with
  | .error e, hq' => exact passAt tk σ pins _ _ e s' I2 hq'
  | .ok (.ret u), hq' =>
    obtain ⟨v, H', I3, rv, ev, q3⟩ := I2.after hq'
    subst ev
    exact ⟨rv, ⟨V.ref (sh.heap.objs.size + 1), H', I3, rfl, q3⟩⟩
  | .ok .next, hq' => exact hq'.elim
  | .ok .brk, hq' => exact hq'.elim
  | .ok .cont, hq' => exact hq'.elim
def tMakeE (cA : Addr) (sp : Sp) (W : WX) (dvs : List V) (t : TA) : TE := fun σ H Q => t σ H fun vs H1 => ∀ x dx, H1 x = none → H1 dx = none → dx ≠ x → sp (.ref x :: (vs ++ dvs)) (upd (upd H1 dx (.own x)) x (.ins cA dx [])) (fun v H2 => v = .non ∧ Q (.ref x) H2) (WE W σ)
theorem pe_makeE {cA : Addr} {fd : FuncData} {ps : List Str} {sp : Sp} {dvs : List V} {ds : List Value} {t : TA} (M : Mk X.K cA f) (Fn : FnOk X.prog X.w X.K X.mg X.base (L2.CX X.prog X.w) k f fd ps sp) (hr : Room (k + 1) X.A) (hg : Gl X x) (hm : X.mg x = some (.ref cA))
    (hb : Binds X.K fd ps ds) (hd : Vals dvs ds) (tk : Takes X W) (pa : PA X (e :: es) t) (hdb : (x == ("__debug__" : Str)) = false) (he : starEach (e :: es) X.env = (false, eval e X.env) :: starEach es X.env) (hpl : (backTo pos (starEach es X.env)).any (·.1) = false) :
    PE X (.Call (.Name x p) (e :: es) [] pos) (tMakeE cA sp W dvs t) := by
  refine ⟨fun pins s σ H Q I h => wpAny_Call_Name_kw (ld_glob I hg hm ?_ hdb)⟩
  refine PySem.W.callWith_K (h₀ := X.base) I.ok.mod.kin M.kp (thn (pa.run pos pins s σ H _ I h) fun us s1 ⟨vs, H1, I1, r, q⟩ => ⟨I1.kIn, ?_⟩) he hpl
  exact run_makeE M Fn hr hb hd tk I1 r q
theorem pe_makeE0 {cA : Addr} {fd : FuncData} {ps : List Str} {sp : Sp} {dvs : List V} {ds : List Value} (M : Mk X.K cA f) (Fn : FnOk X.prog X.w X.K X.mg X.base (L2.CX X.prog X.w) k f fd ps sp) (hr : Room (k + 1) X.A) (hg : Gl X x) (hm : X.mg x = some (.ref cA))
    (hb : Binds X.K fd ps ds) (hd : Vals dvs ds) (tk : Takes X W) (hdb : (x == ("__debug__" : Str)) = false) :
    PE X (.Call (.Name x p) [] [] pos) (tMakeE cA sp W dvs tNil) := by
  refine ⟨fun pins s σ H Q I h => wpAny_Call_Name_kw (ld_glob I hg hm ?_ hdb)⟩
  exact PySem.W.callWith_K0 I.kIn M.kp (run_makeE (us := []) M Fn hr hb hd tk I .nil h)
theorem tMake0_ok {j : Nat} {t : TA} {dvs : List V} (hd : RepL C [] (fun _ => none) dds dvs)
    (ka : ∀ (B : Bs) (ρ : List Addr) (F : Hp) (σ : St) (H : Hp) (s : S) (Q : List V → Hp → Prop), Rel C B ρ F σ H s → Post C B W σ (repA C σ) ρ F (ma s) Q → t σ H Q) (har : arity j ma) (hj : j + dds.length + 1 = n)
    (B : Bs) (ρ : List Addr) (F : Hp) (σ : St) (H : Hp) (s : S) (Q : VK) (R : Rel C B ρ F σ H s) (h : Post C B W σ (repE C σ) ρ F (mMake0 c m dds ma s) Q) : tMakeE (C.cA c) (spF C n m) W dvs t σ H Q := by
  refine ka B ρ F σ H s _ R (h.bind fun ds s1 e1 ρ1 F1 H1 vs _ _ R1 r1 h1 => fun x dx hx hdx hne => ?_)
  split at h1
  · next hl =>
    refine make0_ok R1 ?_ (((r1.rep (cleanL_noSlots hl)).clean hl).append (hd.mono (rfP []) fun _ _ z => by cases z)) hx hdx hne h1
    rw [List.length_append, RepTL.length r1, hd.length, har _ _ _ e1]
    exact hj
  · exact h1.elim
theorem tMake_ok {j : Nat} {t : TA} {dvs : List V} (hd : RepL C [] (fun _ => none) dds dvs)
    (ka : ∀ (B : Bs) (ρ : List Addr) (F : Hp) (σ : St) (H : Hp) (s : S) (Q : List V → Hp → Prop), Rel C B ρ F σ H s → Post C B W σ (repA C σ) ρ F (ma s) Q → t σ H Q) (har : arity j ma) (hj : j + dds.length + 1 = n)
    (B : Bs) (ρ : List Addr) (F : Hp) (σ : St) (H : Hp) (s : S) (Q : VK) (R : Rel C B ρ F σ H s) (h : Post C B W σ (repE C σ) ρ F (mMake c m dds ma s) Q) : tMakeE (C.cA c) (spF C n m) W dvs t σ H Q := by
  refine ka B ρ F σ H s _ R (h.bind fun ds s1 e1 ρ1 F1 H1 vs _ _ R1 r1 h1 => fun x dx hx hdx hne => ?_)
  split at h1
  · next hl =>
    refine make_ok R1 ?_ ((r1.rep hl).append (hd.mono List.nil_prefix fun _ _ z => by cases z)) hx hdx hne h1
    rw [List.length_append, RepTL.length r1, hd.length, har _ _ _ e1]
    exact hj
  · exact h1.elim
theorem k_nil (B : Bs) (ρ : List Addr) (F : Hp) (σ : St) (H : Hp) (s : S) (Q : List V → Hp → Prop) (R : Rel C B ρ F σ H s) (h : Post C B W σ (repA C σ) ρ F (mNil s) Q) : tNil σ H Q :=
  Post.now (rep := repA C σ) (d := []) (v := []) h (rfP ρ) (rfX F) R (show RepTL C ρ F σ [] [] from rfl)
/-- K(e, ..): a new instance that nobody changes -/
theorem re_make0 {j : Nat} (M : Maker C X k n c m dds) (hr : Room (k + 1) X.A) (hg : Gl X x) (hm : X.mg x = some (.ref (C.cA c))) (tk : Takes X W) (ha : RA C X W (e :: es) ma) (har : arity j ma) (hj : j + dds.length + 1 = n) (hdb : (x == ("__debug__" : Str)) = false := by decide)
    (he : starEach (e :: es) X.env = (false, eval e X.env) :: starEach es X.env := by rfl) (hpl : (backTo pos (starEach es X.env)).any (·.1) = false := by rfl) : RE C X W (.Call (.Name x p) (e :: es) [] pos) (mMake0 c m dds ma) := by
  obtain ⟨ta, pa, ka⟩ := ha
  obtain ⟨f, fd, ps, dvs, ds, Mk, Fn, hb, hd, hr2⟩ := M.ok
  exact ⟨_, pe_makeE Mk Fn hr hg hm hb hd tk pa hdb he hpl, tMake0_ok hr2 ka har hj⟩
/-- K(e, ..): a new instance that is changed later -/
theorem re_make {j : Nat} (M : Maker C X k n c m dds) (hr : Room (k + 1) X.A) (hg : Gl X x) (hm : X.mg x = some (.ref (C.cA c))) (tk : Takes X W) (ha : RA C X W (e :: es) ma) (har : arity j ma) (hj : j + dds.length + 1 = n) (hdb : (x == ("__debug__" : Str)) = false := by decide)
    (he : starEach (e :: es) X.env = (false, eval e X.env) :: starEach es X.env := by rfl) (hpl : (backTo pos (starEach es X.env)).any (·.1) = false := by rfl) : RE C X W (.Call (.Name x p) (e :: es) [] pos) (mMake c m dds ma) := by
  obtain ⟨ta, pa, ka⟩ := ha
  obtain ⟨f, fd, ps, dvs, ds, Mk, Fn, hb, hd, hr2⟩ := M.ok
  exact ⟨_, pe_makeE Mk Fn hr hg hm hb hd tk pa hdb he hpl, tMake_ok hr2 ka har hj⟩
theorem re_makeN (M : Maker C X k n c m dds) (hr : Room (k + 1) X.A) (hg : Gl X x) (hm : X.mg x = some (.ref (C.cA c))) (tk : Takes X W) (hj : 0 + dds.length + 1 = n) (hdb : (x == ("__debug__" : Str)) = false := by decide) :
    RE C X W (.Call (.Name x p) [] [] pos) (mMake c m dds mNil) := by
  obtain ⟨f, fd, ps, dvs, ds, Mk, Fn, hb, hd, hr2⟩ := M.ok
  exact ⟨_, pe_makeE0 Mk Fn hr hg hm hb hd tk hdb, tMake_ok hr2 k_nil arity_nil hj⟩
/-! ### o.m(..) -/
def tMethE (cA : Addr) (nm : Str) (sp : Sp) (W : WX) (dvs : List V) (to : TE) (t : TA) : TE := fun σ H Q => to σ H fun x H1 => ∃ a dx fs, x = .ref a ∧ H1 a = some (.ins cA dx fs) ∧ fs.lookup nm = none ∧ t σ H1 fun vs H2 => sp (x :: (vs ++ dvs)) H2 Q (WE W σ)
theorem pe_methE {cA : Addr} {fd : FuncData} {ps : List Str} {sp : Sp} {dvs : List V} {ds : List Value} {to : TE} {t : TA} {pl : Sem Bool} (he : PE X o to) (c : Cls X.K cA) (hm : Meth X.K cA nm f) (Fn : FnOk X.prog X.w X.K X.mg X.base (L2.CX X.prog X.w) k f fd ps sp) (hr : Room k X.A) (hb : Binds X.K fd ps ds) (hd : Vals dvs ds) (tk : Takes X W) (ha : PA X (e :: es) t)
    (hst : starEach (e :: es) X.env = (false, eval e X.env) :: starEach es X.env) (hpl : (backTo pos (starEach es X.env)).any (·.1) = false)
    (ht : eval (.Call (.Attribute o nm apos) (e :: es) [] pos) X.env = (do
      let ov ← eval o X.env
      standAt apos.atName
      let (f, first) ← holding [ov] (getMethod ov nm pl)
      callWith pos f first (backTo pos (starEach (e :: es) X.env)) (backToKw pos (keywordEach [] X.env)))) :
    PE X (.Call (.Attribute o nm apos) (e :: es) [] pos) (tMethE cA nm sp W dvs to t) := by
  refine ⟨fun pins s σ H Q I h => PySem.W.methodCall_KW (pl := pl) (thn (he.run pins s σ H _ I h) fun u s1 ⟨x, H1, I1, rx, a, dx, fs, ex, ea, l, q⟩ => ?_) ht⟩
  subst ex
  obtain rfl : u = Value.ref a := rx
  refine getmeth_ok I1 ea c hm l (PySem.W.callWith_K (first := [.ref a]) (h₀ := X.base) I.ok.mod.kin hm.kp (thn (ha.run pos pins s1 σ H1 _ I1 q) fun us s2 ⟨vs, H2, I2, r, q2⟩ => ⟨I2.kIn, ?_⟩) hst hpl)
  exact run_fnE (us := .ref a :: us) (vs := .ref a :: vs) Fn hr hb hd tk I2 (.cons rfl r) q2
theorem pe_methE0 {cA : Addr} {fd : FuncData} {ps : List Str} {sp : Sp} {dvs : List V} {ds : List Value} {to : TE} {pl : Sem Bool} (he : PE X o to) (c : Cls X.K cA) (hm : Meth X.K cA nm f) (Fn : FnOk X.prog X.w X.K X.mg X.base (L2.CX X.prog X.w) k f fd ps sp) (hr : Room k X.A) (hb : Binds X.K fd ps ds) (hd : Vals dvs ds) (tk : Takes X W)
    (ht : eval (.Call (.Attribute o nm apos) [] [] pos) X.env = (do
      let ov ← eval o X.env
      standAt apos.atName
      let (f, first) ← holding [ov] (getMethod ov nm pl)
      callWith pos f first (backTo pos (starEach [] X.env)) (backToKw pos (keywordEach [] X.env)))) :
    PE X (.Call (.Attribute o nm apos) [] [] pos) (tMethE cA nm sp W dvs to tNil) := by
  refine ⟨fun pins s σ H Q I h => PySem.W.methodCall_KW (pl := pl) (thn (he.run pins s σ H _ I h) fun u s1 ⟨x, H1, I1, rx, a, dx, fs, ex, ea, l, q⟩ => ?_) ht⟩
  subst ex
  obtain rfl : u = Value.ref a := rx
  exact getmeth_ok I1 ea c hm l (PySem.W.callWith_K0 (first := [.ref a]) I1.kIn hm.kp (run_fnE (us := [.ref a]) (vs := [.ref a]) Fn hr hb hd tk I1 (.cons rfl .nil) q))
/-- o.m(e, ..): by values, or with the cells -/
def methR (m : PF) (dds : List D) (d : D) (ds : List D) (s : S) : R D := match lend s (d :: ds) with
  | some (ds', b) => back0 b (m (ds' ++ dds) []) s
  | none => .err
def methC (m : PF) (dds : List D) (d : D) (ds : List D) (s : S) : R D := if noSlots (d :: ds) = true then backC (m ((d :: ds) ++ dds) s.cs) s else .err
def mOwn (c : Nat) (nm : Str) (g : D → List D → S → R D) (mo : ME) (ma : MA) : ME := fun s => (mo s).bind fun d s1 => match cont s1 d with
  | some (.obj c' ns _) => if c' = c ∧ nm ∉ ns then (ma s1).bind fun ds s2 => g d ds s2 else .err
  | _ => .err
theorem lookup_none : ∀ {fs : List (Str × V)}, nm ∉ fs.map (·.1) → fs.lookup nm = none
  | [], _ => rfl
  | (g, v) :: fs, h => by
    simp only [List.map_cons, List.mem_cons, not_or] at h
    rw [List.lookup_cons, beq_eq_false_iff_ne.mpr h.1]
    exact lookup_none h.2
theorem tMeth_ok {j : Nat} {to : TE} {t : TA} {dvs : List V} {g : D → List D → S → R D} (hK : X.K = C.K)
    (hg : ∀ (B : Bs) (ρ : List Addr) (F : Hp) (σ : St) (H : Hp) (s : S) (Q : VK) (d : D) (ds : List D) (v : V) (vs : List V), Rel C B ρ F σ H s → RepT C ρ F σ d v → RepTL C ρ F σ ds vs → ds.length = j → Post C B W σ (repE C σ) ρ F (g d ds s) Q → spF C n m (v :: (vs ++ dvs)) H Q (WE W σ))
    (ko : ∀ (B : Bs) (ρ : List Addr) (F : Hp) (σ : St) (H : Hp) (s : S) (Q : VK), Rel C B ρ F σ H s → Post C B W σ (repE C σ) ρ F (mo s) Q → to σ H Q)
    (ka : ∀ (B : Bs) (ρ : List Addr) (F : Hp) (σ : St) (H : Hp) (s : S) (Q : List V → Hp → Prop), Rel C B ρ F σ H s → Post C B W σ (repA C σ) ρ F (ma s) Q → t σ H Q) (har : arity j ma)
    (B : Bs) (ρ : List Addr) (F : Hp) (σ : St) (H : Hp) (s : S) (Q : VK) (R : Rel C B ρ F σ H s) (h : Post C B W σ (repE C σ) ρ F (mOwn c nm g mo ma s) Q) : tMethE (C.cA c) nm (spF C n m) W dvs to t σ H Q := by
  refine ko B ρ F σ H s _ R (h.bind fun d s1 _ ρ1 F1 H1 v _ _ R1 r1 h1 => ?_)
  split at h1
  · next c' ns es hc =>
    split at h1
    · next hz =>
      obtain ⟨rfl, hn⟩ := hz
      obtain ⟨a, dx, fs, rfl, g1, rfl, r⟩ := vw_obj (R1.view r1 hc)
      refine ⟨a, dx, fs, rfl, g1, lookup_none hn, ?_⟩
      refine ka B ρ1 F1 σ H1 s1 _ R1 (h1.bind fun ds s2 e2 ρ2 F2 H2 vs p2 x2 R2 r2 h2 => ?_)
      exact hg B ρ2 F2 σ H2 s2 Q d ds _ vs R2 (RepT.mono p2 x2 r1) r2 (har _ _ _ e2) h2
    · exact h1.elim
  · exact h1.elim
theorem methR_ok {j : Nat} {dvs : List V} (hd : RepL C [] (fun _ => none) dds dvs) (hj : j + dds.length + 1 = n) (B : Bs) (ρ : List Addr) (F : Hp) (σ : St) (H : Hp) (s : S) (Q : VK) (d : D) (ds : List D) (v : V) (vs : List V) (R : Rel C B ρ F σ H s) (r1 : RepT C ρ F σ d v) (r2 : RepTL C ρ F σ ds vs) (hl : ds.length = j)
    (h : Post C B W σ (repE C σ) ρ F (methR m dds d ds s) Q) : spF C n m (v :: (vs ++ dvs)) H Q (WE W σ) := by
  have r : RepTL C ρ F σ (d :: ds) (v :: vs) := ⟨v, vs, rfl, r1, r2⟩
  unfold methR at h
  split at h
  · next ds' b hl2 =>
    refine call0_ok (vs := (v :: vs) ++ dvs) R ?_ ((lend_ok R r hl2).append (hd.mono (rfP []) fun _ _ z => by cases z)) h
    rw [List.length_append, RepTL.length r, hd.length, List.length_cons, hl]
    omega
  · exact h.elim
theorem methC_ok {j : Nat} {dvs : List V} (hd : RepL C [] (fun _ => none) dds dvs) (hj : j + dds.length + 1 = n) (B : Bs) (ρ : List Addr) (F : Hp) (σ : St) (H : Hp) (s : S) (Q : VK) (d : D) (ds : List D) (v : V) (vs : List V) (R : Rel C B ρ F σ H s) (r1 : RepT C ρ F σ d v) (r2 : RepTL C ρ F σ ds vs) (hl : ds.length = j)
    (h : Post C B W σ (repE C σ) ρ F (methC m dds d ds s) Q) : spF C n m (v :: (vs ++ dvs)) H Q (WE W σ) := by
  have r : RepTL C ρ F σ (d :: ds) (v :: vs) := ⟨v, vs, rfl, r1, r2⟩
  unfold methC at h
  split at h
  · next hl2 =>
    refine callC_ok (vs := (v :: vs) ++ dvs) R ?_ ((r.rep hl2).append (hd.mono List.nil_prefix fun _ _ z => by cases z)) h
    rw [List.length_append, RepTL.length r, hd.length, List.length_cons, hl]
    omega
  · exact h.elim
theorem re_ownR {j : Nat} {pl : Sem Bool} (hK : X.K = C.K) (M : Method C X k n c nm m dds) (hr : Room k X.A) (tk : Takes X W) (ho : RE C X W o mo) (ha : RA C X W (e :: es) ma) (har : arity j ma) (hj : j + dds.length + 1 = n)
    (hst : starEach (e :: es) X.env = (false, eval e X.env) :: starEach es X.env := by rfl) (hpl : (backTo pos (starEach es X.env)).any (·.1) = false := by rfl)
    (ht : eval (.Call (.Attribute o nm apos) (e :: es) [] pos) X.env = (do
      let ov ← eval o X.env
      standAt apos.atName
      let (f, first) ← holding [ov] (getMethod ov nm pl)
      callWith pos f first (backTo pos (starEach (e :: es) X.env)) (backToKw pos (keywordEach [] X.env))) := by rfl) : RE C X W (.Call (.Attribute o nm apos) (e :: es) [] pos) (mOwn c nm (methR m dds) mo ma) := by
  obtain ⟨to, po, ko⟩ := ho
  obtain ⟨ta, pa, ka⟩ := ha
  obtain ⟨f, fd, ps, dvs, ds, hc, hm, Fn, hb, hd, hr2⟩ := M.ok
  exact ⟨_, pe_methE po hc hm Fn hr hb hd tk pa hst hpl ht, tMeth_ok hK (methR_ok hr2 hj) ko ka har⟩
theorem re_ownC {j : Nat} {pl : Sem Bool} (hK : X.K = C.K) (M : Method C X k n c nm m dds) (hr : Room k X.A) (tk : Takes X W) (ho : RE C X W o mo) (ha : RA C X W (e :: es) ma) (har : arity j ma) (hj : j + dds.length + 1 = n)
    (hst : starEach (e :: es) X.env = (false, eval e X.env) :: starEach es X.env := by rfl) (hpl : (backTo pos (starEach es X.env)).any (·.1) = false := by rfl)
    (ht : eval (.Call (.Attribute o nm apos) (e :: es) [] pos) X.env = (do
      let ov ← eval o X.env
      standAt apos.atName
      let (f, first) ← holding [ov] (getMethod ov nm pl)
      callWith pos f first (backTo pos (starEach (e :: es) X.env)) (backToKw pos (keywordEach [] X.env))) := by rfl) : RE C X W (.Call (.Attribute o nm apos) (e :: es) [] pos) (mOwn c nm (methC m dds) mo ma) := by
  obtain ⟨to, po, ko⟩ := ho
  obtain ⟨ta, pa, ka⟩ := ha
  obtain ⟨f, fd, ps, dvs, ds, hc, hm, Fn, hb, hd, hr2⟩ := M.ok
  exact ⟨_, pe_methE po hc hm Fn hr hb hd tk pa hst hpl ht, tMeth_ok hK (methC_ok hr2 hj) ko ka har⟩
theorem re_ownR0 {pl : Sem Bool} (hK : X.K = C.K) (M : Method C X k n c nm m dds) (hr : Room k X.A) (tk : Takes X W) (ho : RE C X W o mo) (hj : 0 + dds.length + 1 = n)
    (ht : eval (.Call (.Attribute o nm apos) [] [] pos) X.env = (do
      let ov ← eval o X.env
      standAt apos.atName
      let (f, first) ← holding [ov] (getMethod ov nm pl)
      callWith pos f first (backTo pos (starEach [] X.env)) (backToKw pos (keywordEach [] X.env))) := by rfl) : RE C X W (.Call (.Attribute o nm apos) [] [] pos) (mOwn c nm (methR m dds) mo mNil) := by
  obtain ⟨to, po, ko⟩ := ho
  obtain ⟨f, fd, ps, dvs, ds, hc, hm, Fn, hb, hd, hr2⟩ := M.ok
  exact ⟨_, pe_methE0 po hc hm Fn hr hb hd tk ht, tMeth_ok hK (methR_ok hr2 hj) ko k_nil arity_nil⟩
theorem re_ownC0 {pl : Sem Bool} (hK : X.K = C.K) (M : Method C X k n c nm m dds) (hr : Room k X.A) (tk : Takes X W) (ho : RE C X W o mo) (hj : 0 + dds.length + 1 = n)
    (ht : eval (.Call (.Attribute o nm apos) [] [] pos) X.env = (do
      let ov ← eval o X.env
      standAt apos.atName
      let (f, first) ← holding [ov] (getMethod ov nm pl)
      callWith pos f first (backTo pos (starEach [] X.env)) (backToKw pos (keywordEach [] X.env))) := by rfl) : RE C X W (.Call (.Attribute o nm apos) [] [] pos) (mOwn c nm (methC m dds) mo mNil) := by
  obtain ⟨to, po, ko⟩ := ho
  obtain ⟨f, fd, ps, dvs, ds, hc, hm, Fn, hb, hd, hr2⟩ := M.ok
  exact ⟨_, pe_methE0 po hc hm Fn hr hb hd tk ht, tMeth_ok hK (methC_ok hr2 hj) ko k_nil arity_nil⟩
/-! ### f() -/
theorem pe_callE0 {fd : FuncData} {ps : List Str} {sp : Sp} {dvs : List V} {ds : List Value} (Fn : FnOk X.prog X.w X.K X.mg X.base (L2.CX X.prog X.w) k f fd ps sp) (hr : Room k X.A) (hg : Gl X x) (hm : X.mg x = some (.ref f)) (hk : PySem.W.keepIn X.K (.ref f) = true)
    (hb : Binds X.K fd ps ds) (hd : Vals dvs ds) (tk : Takes X W) (hdb : (x == ("__debug__" : Str)) = false) :
    PE X (.Call (.Name x p) [] [] pos) (tCallE sp W dvs tNil) :=
  ⟨fun pins s σ H Q I h => wpAny_Call_Name_kw (ld_glob I hg hm (PySem.W.callWith_K0 I.kIn hk (run_fnE (us := []) Fn hr hb hd tk I .nil h)) hdb)⟩
theorem re_callC0 (Ce : Callee C X k n f m dds) (hr : Room k X.A) (hg : Gl X x) (hm : X.mg x = some (.ref f)) (tk : Takes X W) (hj : 0 + dds.length = n) (hdb : (x == ("__debug__" : Str)) = false := by decide) : RE C X W (.Call (.Name x p) [] [] pos) (mCall m dds mNil) := by
  obtain ⟨fd, ps, dvs, ds, Fn, hb, hd, hr2⟩ := Ce.ok
  exact ⟨_, pe_callE0 Fn hr hg hm Ce.kp hb hd tk hdb, tCallC_ok hr2 k_nil fun s ds s' e => by rw [arity_nil s ds s' e]; exact hj⟩
end
end
end ML
end
section
set_option Elab.async false
set_option linter.all false
set_option maxRecDepth 100000
set_option autoImplicit false
/-! ML15: raise; try with clauses, named or not; what is never reached. -/
namespace ML
open PySem PySem.Spec PyProof.Rows L2
abbrev TX := Addr → Value → Option Addr → TS
/-- clauses: the class named, the slot of the name (if any), what the suite does -/
abbrev Cls3 := Value × Option Nat × TX
def offE (D : Ends) (i : Nat) : Ends := ⟨fun τ H => D.nx (τ.set i none) H, D.rt, fun τ H => D.bk (τ.set i none) H, fun τ H => D.ct (τ.set i none) H⟩
def wAny (K : PySem.W.Frag) (Wo : WX) (D : Ends) : List Cls3 → WX
  | [] => Wo
  | (c, none, ts) :: r => fun k dd τ H => ∃ b, PySem.W.exmOne K k c = some b ∧ (b = true → ∀ a, H a = none → ts a k dd D τ H) ∧ (b = false → wAny K Wo D r k dd τ H)
  | (c, some i, ts) :: r => fun k dd τ H => ∃ b, PySem.W.exmOne K k c = some b ∧ (b = true → ∀ a, H a = none → ts a k dd (offE D i) (τ.set i (some (.ref a))) H) ∧ (b = false → wAny K Wo D r k dd τ H)
/-- a suite, in every state in which a clause may begin -/
def SuiteOk (X : Cx) (body : List Stmt) (ts : TX) : Prop := ∀ (a : Addr) (oe : Obj) (k : Value) (dd : Option Addr) (pn : List (Addr × Obj)), Zc k dd oe → (∃ vs, oe.data = .fields vs) → PSs (X.suite a ((a, oe) :: pn)) body (ts a k dd)
inductive Clauses (X : Cx) : List ExceptHandler → List Cls3 → Prop
  | nil : Clauses X [] []
  | bare {x : Str} {c : Value} {ts : TX} {b : Stmt} {bs : List Stmt} {np hp : Pos} {hs : List ExceptHandler} {l : List Cls3} (hn : Names X x c) (hsu : SuiteOk X (b :: bs) ts) (r : Clauses X hs l) :
      Clauses X (.ExceptHandler (some (.Name x np)) none (b :: bs) hp :: hs) ((c, none, ts) :: l)
  | named {x n : Str} {i : Nat} {c : Value} {ts : TX} {b : Stmt} {bs : List Stmt} {np hp : Pos} {hs : List ExceptHandler} {l : List Cls3} (hi : X.N[i]? = some n) (hln : X.env.kindOf n = some .local) (hn : Names X x c) (hsu : SuiteOk X (b :: bs) ts) (r : Clauses X hs l) :
      Clauses X (.ExceptHandler (some (.Name x np)) (some n) (b :: bs) hp :: hs) ((c, some i, ts) :: l)
section
variable {X : Cx} {body : List Stmt} {h₀ : ExceptHandler} {hs : List ExceptHandler} {l : List Cls3} {pos : Pos} {tb : WX → TS} {Wo : WX}
theorem ps_try_any (hst : X.stack = X.env :: X.outer) (hf : X.env.frame = some X.env.locals) (hN : X.N.Nodup) (tk : Takes X Wo)
    (hb : ∀ (W : WX) (pn : List (Addr × Obj)) (xe : Value → Shared → Prop), Takes (X.tr pn xe) W → PassesOwn (model X.prog X.w) X.A X.env xe → PSs (X.tr pn xe) body (tb W))
    (hh : Clauses X (h₀ :: hs) l) : PS X (.Try body (h₀ :: hs) [] [] pos) (fun D τ H => tb (wAny X.K Wo D l) D τ H) := by
  refine ⟨fun pins s₀ τ H D I q => ?_⟩
  have ok := I.ok
  have hfr : X.A.frames = some (X.env :: X.outer) := ok.frames.trans (congrArg some hst)
  have body_end : ∀ f s₁, SP (X.tr (X.pn ++ pins) fun e s₁ => wpAny (model X.prog X.w) X.A (noteFrame e X.env) (fun _ s₂ => wpAny (model X.prog X.w) X.A (setFlight e none) (fun _ s₃ => wpAny (model X.prog X.w) X.A (handleBy e X.env (h₀ :: hs)) (SP X pins D) X.xe s₃) X.xe s₂) X.xe s₁) [] D f s₁ → SP X pins D f s₁ := fun f s₁ z => by
    cases f with
    | ret u => exact let ⟨v, τ', H', J, r, w⟩ := z; ⟨v, τ', H', J.ofTry ok, r, w⟩
    | next => exact let ⟨τ', H', J, w⟩ := z; ⟨τ', H', J.ofTry ok, w⟩
    | brk => exact let ⟨τ', H', J, w⟩ := z; ⟨τ', H', J.ofTry ok, w⟩
    | cont => exact let ⟨τ', H', J, w⟩ := z; ⟨τ', H', J.ofTry ok, w⟩
  refine wpAny_Try_except (wpAny_mono ((hb (wAny X.K Wo D l) (X.pn ++ pins) _ (fun u s₁ xx => ?_) PassesOwn.looking).run [] s₀ τ H D (I.toTry _) q) (fun f s₁ z => ?_) fun _ _ z => z)
  · obtain ⟨a, G, sI, pins', τ₁, H₁, k, dd, rfl, J', nb, up, sky, na, os, ag, w⟩ := xx
    have J : Inv X pins τ₁ H₁ sI := J'.ofTry ok
    refine Sky.land Zc.steady hfr hf (hst ▸ (show Sky G X.stack a (Zc k dd) X.env.locals s₁.heap from sky)) fun h₂ fl₂ up₂ => ?_
    have J₂ : Inv X pins τ₁ H₁ { s₁ with heap := h₂ } := J.landed nb fl₂.1 (up.trans up₂) os ag
    obtain ⟨oe₂, vs₂, he₂, hz₂, hd₂⟩ := fl₂.there
    have off : a ∉ frs (X.env :: X.outer) := fun hm => by
      obtain ⟨_, o', e', hnf⟩ := fl₂.2.2.1.mem hm
      rw [he₂] at e'
      cases e'
      exact hnf _ hd₂
    have nL : a ≠ X.env.locals := fun z => off (List.mem_filterMap.mpr ⟨_, List.mem_cons_self, hf.trans (congrArg some z.symm)⟩)
    have nF : a ∉ X.fs := fun hm => by
      obtain ⟨e, m, z⟩ := List.mem_filterMap.mp hm
      exact off (List.mem_filterMap.mpr ⟨e, List.mem_cons_of_mem _ m, z⟩)
    have S₂ := J₂.suite he₂ hd₂ na nL nF
    have LT : PySem.W.Looks (model X.prog X.w) h₂ (typeOf (.ref a)) k := fun _ _ _ s₃ kk z => wpAny_typeOf_ref (kk _ _ he₂) (hz₂.1 ▸ z)
    have see : ∀ {x : Str} {c : Value} {np : Pos} {Q E : Value → Shared → Prop}, Names X x c → Q c { s₁ with heap := h₂ } → wpAny (model X.prog X.w) (X.A.mark (some (.ref a))) (eval (.Name x np) X.env) Q E { s₁ with heap := h₂ } := fun {x c np Q E} hn z => by
      obtain ⟨hg, hdb, hm | ⟨hm, hv, hnn⟩⟩ := hn
      · exact ld_glob (X := X.suite a ((a, oe₂) :: (X.pn ++ pins))) S₂ hg hm z hdb
      · exact ld_blt (X := X.suite a ((a, oe₂) :: (X.pn ++ pins))) S₂ hg hm hv z hnn hdb
    have go : ∀ {hs' : List ExceptHandler} {l' : List Cls3}, Clauses X hs' l' → wAny X.K Wo D l' k dd τ₁ H₁ → wpAny (model X.prog X.w) X.A (handleBy (.ref a) X.env hs') (SP X pins D) X.xe { s₁ with heap := h₂ } := by
      intro hs' l' hk
      induction hk with
      | nil =>
        intro w
        refine wpAny_handleBy_nil ?_
        obtain ⟨_, _, _, oe, vs, T, oT, ts', he, hz, hd, h1, _⟩ := id fl₂
        unfold PySem.passOn
        refine wpAny_bind (wpAny_field he hd h1 ?_)
        rw [if_neg (by simp)]
        have fin : wpAny (model X.prog X.w) X.A (setFlight (.ref a) X.env.frame) (fun _ s₄ => wpAny (model X.prog X.w) X.A (throw (.ref a) : Sem Flow) (SP X pins D) X.xe s₄) X.xe { s₁ with heap := h₂ } :=
          hf ▸ HandSPX.setFlight_upZ fl₂ fun h₃ hh₃ up₃ => wpAny_throw (tk _ _ ⟨a, G, sI, pins, τ₁, H₁, k, dd, rfl, J, nb, (up.trans up₂).trans up₃, .inr (.inr (hst ▸ hh₃)), na, os, ag, w⟩)
        first
          | exact wpAny_bind (wpAny_pure (wpAny_bind fin))
          | exact wpAny_bind fin
      | bare hn hsu r ih =>
        rintro ⟨b, hb1, yes, no⟩
        refine wpAny_handleBy_cons (codeAny_handlers_test (see hn ((PySem.W.exm_one (M := model X.prog X.w) J₂.kIn LT hb1).here ?_))) (by intro z; cases z)
        cases b with
        | false => exact ih (no rfl)
        | true =>
          refine codeAny_handlers_suite (HandSPX.lands_againZ fl₂ fun h₃ fl₃ up₃ => ?_)
          have J₃ : Inv X pins τ₁ H₁ { s₁ with heap := h₃ } := J.landed nb fl₃.1 ((up.trans up₂).trans up₃) os ag
          obtain ⟨oe₃, vs₃, he₃, hz₃, hd₃⟩ := fl₃.there
          refine wpAny_mono ((hsu a oe₃ k dd (X.pn ++ pins) hz₃ ⟨_, hd₃⟩).run [] _ _ H₁ _ (J₃.suite he₃ hd₃ na nL nF) (yes rfl a na)) (fun f s₆ z => ?_) (fun _ _ z => z.elim)
          cases f with
          | ret u => exact let ⟨v, τ', H', J, r, w⟩ := z; ⟨v, τ', H', J.unsuite ok, r, w⟩
          | next => exact let ⟨τ', H', J, w⟩ := z; ⟨τ', H', J.unsuite ok, w⟩
          | brk => exact let ⟨τ', H', J, w⟩ := z; ⟨τ', H', J.unsuite ok, w⟩
          | cont => exact let ⟨τ', H', J, w⟩ := z; ⟨τ', H', J.unsuite ok, w⟩
      | @named x n i c ts b₀ bs np hp hs2 l2 hi hln hn hsu r ih =>
        rintro ⟨b, hb1, yes, no⟩
        refine wpAny_handleBy_cons (codeAny_handlers_test (see hn ((PySem.W.exm_one (M := model X.prog X.w) J₂.kIn LT hb1).here ?_))) (by intro z; cases z)
        cases b with
        | false => exact ih (no rfl)
        | true =>
          refine codeAny_handlers_suite_as (HandSPX.lands_againZ fl₂ fun h₃ fl₃ up₃ => ?_)
          have J₃ : Inv X pins τ₁ H₁ { s₁ with heap := h₃ } := J.landed nb fl₃.1 ((up.trans up₂).trans up₃) os ag
          obtain ⟨oe₃, vs₃, he₃, hz₃, hd₃⟩ := fl₃.there
          refine store_ok (X := X.suite a ((a, oe₃) :: (X.pn ++ pins))) (v := .ref a) (J₃.suite he₃ hd₃ na nL nF) hN hi (.inl hln) rfl (fun s₅ S₅ => ?_) (.inr hln)
          refine wpAny_mono ((hsu a oe₃ k dd (X.pn ++ pins) hz₃ ⟨_, hd₃⟩).run [] s₅ _ H₁ _ S₅ (yes rfl a na)) (fun f s₆ z => ?_) (fun _ _ z => z.elim)
          have off_ : ∀ {τ' : St} {H' : Hp} {Q : Shared → Prop}, Inv (X.suite a ((a, oe₃) :: (X.pn ++ pins))) [] τ' H' s₆ → (∀ s₇, Inv X pins (τ'.set i none) H' s₇ → Q s₇) →
              wpAny (model X.prog X.w) X.A (do bindName X.env n .none; unbindBehindTheSuite X.env n hp) (fun _ s₇ => Q s₇) X.xe s₆ := fun S w => gone_ok (S.unsuite ok) hN hi hln w
          cases f with
          | ret u => exact let ⟨v, τ', H', J, r, w⟩ := z; off_ J fun _ J' => ⟨v, _, _, J', r, w⟩
          | next => exact let ⟨τ', H', J, w⟩ := z; off_ J fun _ J' => ⟨_, _, J', w⟩
          | brk => exact let ⟨τ', H', J, w⟩ := z; off_ J fun _ J' => ⟨_, _, J', w⟩
          | cont => exact let ⟨τ', H', J, w⟩ := z; off_ J fun _ J' => ⟨_, _, J', w⟩
    exact go hh w
  · have z := body_end f s₁ z
    cases f with
    | next => exact wpAny_execs_nil z
    | ret u => exact z
    | brk => exact z
    | cont => exact z
end
/-! ### raise -/
def mRaise (c : Nat) : MS := fun s => .exc ⟨c, [], []⟩ s
/-- what a class must have to be raised with a text -/
structure ExcOk (C : Ctx) (X : Cx) (c : Nat) : Prop where
  ok : ∃ (B newId initId : String) (bmB : List Value), ExcBaseFacts B newId initId bmB ∧ PySem.W.excIn X.K (C.cA c) bmB newId = true ∧ PySem.W.keepIn X.K (.ref (C.cA c)) = true ∧ Raises X (.ref (C.cA c))
section
variable {C : Ctx} {X : Cx} {W : WX} {pos : Pos} {i : Bool}
theorem rs_raise {c : Nat} {x m : Str} {j : Nat} {p p2 cp : Pos} (hc : X.calm = true) (tk : Takes X W) (E : ExcOk C X c) (hg : Gl X x) (hm : X.mg x = some (.ref (C.cA c))) (hdb : (x == ("__debug__" : Str)) = false := by decide) :
    RS C X W i (.Raise (some (.Call (.Name x p) [.Constant (.str m) j p2] [] cp)) none pos) (mRaise c) := by
  obtain ⟨B, newId, initId, bmB, F, q, kC, r⟩ := E.ok
  exact ⟨_, ps_raise hc tk (pmk_own F q hm kC r hg hdb), fun B ρ F σ H s D hi R h => h ρ F σ H _ _ (rfP ρ) (rfX F) R ⟨rfl, .inl ⟨rfl, rfl⟩⟩⟩
/-! ### what is never reached -/
def mNo : MS := fun _ => .err
theorem rs_no {st : Stmt} : RS C X W i st mNo := ⟨_, ps_never, fun B ρ F σ H s D hi R h => h⟩
def mNoE : ME := fun _ => .err
theorem re_no {e : Expr} : RE C X W e mNoE := ⟨fun _ _ _ => False, ⟨fun _ _ _ _ _ _ h => h.elim⟩, fun B ρ F σ H s Q R h => h⟩
theorem rss_no {sts : List Stmt} (hn : sts ≠ []) : RSs C X W i sts mNo := by
  cases sts with
  | nil => exact absurd rfl hn
  | cons a r =>
    refine ⟨fun _ _ _ => False, ?_, fun B ρ F σ H s D hi R h => h⟩
    exact ⟨fun pins s σ H D I h => h.elim⟩
end
/-! ### try -/
def okD (x : Xn) (dd : Option Addr) : Prop := (x.ns = [] ∧ dd = none) ∨ (x.ns ≠ [] ∧ ∃ d, dd = some d)
theorem okD_some (x : Xn) : ∃ dd, okD x dd := by
  by_cases h : x.ns = []
  · exact ⟨none, .inl ⟨h, rfl⟩⟩
  · exact ⟨some 0, .inr ⟨h, 0, rfl⟩⟩
noncomputable def indep (x : Xn) (f : Addr → Option Addr → Fl) : Fl := by
  classical
  exact if h : ∃ r, ∀ a dd, okD x dd → f a dd = r then h.choose else .err
theorem indep_eq {x : Xn} {f : Addr → Option Addr → Fl} {r : Fl} (h : ∀ a dd, okD x dd → f a dd = r) : indep x f = r := by
  have hx : ∃ r, ∀ a dd, okD x dd → f a dd = r := ⟨r, h⟩
  obtain ⟨dd, hd⟩ := okD_some x
  unfold indep
  rw [dif_pos hx]
  rw [← hx.choose_spec 0 dd hd, h 0 dd hd]
theorem indep_ne {x : Xn} {f : Addr → Option Addr → Fl} (h : indep x f ≠ .err) {a : Addr} {dd : Option Addr} (hd : okD x dd) : f a dd = indep x f := by
  unfold indep at h ⊢
  split at h
  · next hx => rw [dif_pos hx]; exact hx.choose_spec a dd hd
  · exact absurd rfl h
def enterH (j : Option Nat) (a : Addr) (dd : Option Addr) (x : Xn) (s : S) : S := match j with
  | none => s
  | some i => setS i (.fz (.exn a dd x.c x.ns x.ds)) s
def leaveS (j : Option Nat) (s : S) : S := match j with
  | none => s
  | some i => setS i .no s
def leaveH (j : Option Nat) : Fl → Fl
  | .nx s => .nx (leaveS j s)
  | .rt d s => .rt d (leaveS j s)
  | .bk s => .bk (leaveS j s)
  | .ct s => .ct (leaveS j s)
  | _ => .err
abbrev MX := Addr → Option Addr → Nat → MS
abbrev MCl := List Nat × Option Nat × MX
noncomputable def mHs (all : List Nat) : List MCl → Xn → S → Fl
  | [], x, s => .exc x s
  | (cs, j, m) :: r, x, s => if x.c ∈ all then (if x.c ∈ cs then indep x fun a dd => leaveH j (m a dd x.c (enterH j a dd x s)) else mHs all r x s) else .err
noncomputable def mTry (all : List Nat) (mb : MS) (hs : List MCl) : MS := fun s => match mb s with
  | .exc x s' => mHs all hs x s'
  | o => o
section
variable {C : Ctx} {X : Cx} {W : WX} {pos : Pos} {i : Bool}
theorem RSs.uni {ι : Type} {X : ι → Cx} {sts : List Stmt} {m : MS} (h : ∀ z, RSs C (X z) W i sts m) :
    ∃ t : TS, (∀ z, PSs (X z) sts t) ∧ ∀ (B : Bs) (ρ : List Addr) (F : Hp) (σ : St) (H : Hp) (s : S) (D : Ends), (i = false → B.ex = []) → Rel C B ρ F σ H s → PostS C B W ρ F (m s) D → t D σ H := by
  refine ⟨fun D σ H => ∃ B ρ F s, (i = false → B.ex = []) ∧ Rel C B ρ F σ H s ∧ PostS C B W ρ F (m s) D, fun z => ?_, fun B ρ F σ H s D hi R h => ⟨B, ρ, F, s, hi, R, h⟩⟩
  obtain ⟨t, p, k⟩ := h z
  exact ⟨fun pins s σ H D I ⟨B, ρ, F, s', hi, R, q⟩ => p.run pins s σ H D I (k B ρ F σ H s' D hi R q)⟩
/-- a suite at every state of a clause -/
def MSuite (C : Ctx) (X : Cx) (i : Bool) (all : List Nat) (body : List Stmt) (m : MX) : Prop :=
  ∀ (a : Addr) (oe : Obj) (k : Nat) (dd : Option Addr) (pn : List (Addr × Obj)), k ∈ all → Zc (.ref (C.cA k)) dd oe → (∃ vs, oe.data = .fields vs) → RSs C (X.suite a ((a, oe) :: pn)) W0 i body (m a dd k)
inductive MClauses (C : Ctx) (X : Cx) (i : Bool) (all : List Nat) : List ExceptHandler → List MCl → Prop
  | nil : MClauses C X i all [] []
  | bare {x : Str} {c : Value} {cs : List Nat} {m : MX} {b : Stmt} {bs : List Stmt} {np hp : Pos} {hs : List ExceptHandler} {l : List MCl} (hn : Names X x c) (hx : ∀ k ∈ all, PySem.W.exmOne X.K (.ref (C.cA k)) c = some (decide (k ∈ cs))) (hsu : MSuite C X i all (b :: bs) m)
      (r : MClauses C X i all hs l) : MClauses C X i all (.ExceptHandler (some (.Name x np)) none (b :: bs) hp :: hs) ((cs, none, m) :: l)
  | named {x n : Str} {j : Nat} {c : Value} {cs : List Nat} {m : MX} {b : Stmt} {bs : List Stmt} {np hp : Pos} {hs : List ExceptHandler} {l : List MCl} (hi : X.N[j]? = some n) (hln : X.env.kindOf n = some .local) (hn : Names X x c) (hx : ∀ k ∈ all, PySem.W.exmOne X.K (.ref (C.cA k)) c = some (decide (k ∈ cs)))
      (hsu : MSuite C X i all (b :: bs) m) (r : MClauses C X i all hs l) : MClauses C X i all (.ExceptHandler (some (.Name x np)) (some n) (b :: bs) hp :: hs) ((cs, some j, m) :: l)
theorem Rel.unset {B : Bs} {ρ : List Addr} {F : Hp} {σ : St} {H : Hp} {s : S} (R : Rel C B ρ F σ H s) (j : Nat) : Rel C B ρ F (σ.set j none) H (setS j .no s) := by
  refine R.drop (by simp [R.len]) fun k x e hx => ?_
  rcases set_some e with ⟨_, z, _⟩ | ⟨hne, e⟩
  · exact absurd z.symm hx
  · exact ⟨e, List.getElem?_set_ne hne⟩
theorem PostS.leave {B : Bs} {ρ : List Addr} {F : Hp} {D : Ends} {f : Fl} {j : Nat} (h : PostS C B W ρ F (leaveH (some j) f) D) : PostS C B W0 ρ F f (offE D j) := by
  cases f with
  | nx s => exact fun ρ' F' σ' H' p x R => h ρ' F' _ H' p x (R.unset j)
  | rt d s => exact fun ρ' F' σ' H' v p x R r => h ρ' F' _ H' v p x (R.unset j) r
  | bk s => exact fun ρ' F' σ' H' p x R => h ρ' F' _ H' p x (R.unset j)
  | ct s => exact fun ρ' F' σ' H' p x R => h ρ' F' _ H' p x (R.unset j)
  | exc x s => exact h.elim
  | err => exact h.elim
theorem PostS.leave0 {B : Bs} {ρ : List Addr} {F : Hp} {D : Ends} {f : Fl} (h : PostS C B W ρ F (leaveH none f) D) : PostS C B W0 ρ F f D := by
  cases f with
  | nx s => exact h
  | rt d s => exact h
  | bk s => exact h
  | ct s => exact h
  | exc x s => exact h.elim
  | err => exact h.elim
theorem MSuite.use {all : List Nat} {body : List Stmt} {m : MX} (h : MSuite C X i all body m) :
    ∃ ts : TX, SuiteOk X body ts ∧ ∀ (a : Addr) (k : Nat) (dd : Option Addr) (B : Bs) (ρ : List Addr) (F : Hp) (σ : St) (H : Hp) (s : S) (D : Ends), k ∈ all → (i = false → B.ex = []) → Rel C B ρ F σ H s → PostS C B W0 ρ F (m a dd k s) D → ts a (.ref (C.cA k)) dd D σ H := by
  refine ⟨fun a k dd D σ H => ∃ kk ∈ all, k = .ref (C.cA kk) ∧ ∃ B ρ F s, (i = false → B.ex = []) ∧ Rel C B ρ F σ H s ∧ PostS C B W0 ρ F (m a dd kk s) D, fun a oe k dd pn hz hf => ?_, fun a k dd B ρ F σ H s D hk hi R q => ⟨k, hk, rfl, B, ρ, F, s, hi, R, q⟩⟩
  refine ⟨fun pins s σ H D I ⟨kk, hk, e, B, ρ, F, s', hi, R, q⟩ => ?_⟩
  subst e
  obtain ⟨t, p, kk'⟩ := h a oe kk dd pn hk hz hf
  exact p.run pins s σ H D I (kk' B ρ F σ H s' D hi R q)
theorem okD_of {ρ : List Addr} {F : Hp} {x : Xn} {cls : Value} {dd : Option Addr} (h : XRep C ρ F x cls dd) : okD x dd := by
  rcases h.2 with e | ⟨d, fs, e1, _⟩
  · exact .inl e
  · exact .inr ⟨e1.1, d, e1.2⟩
theorem MClauses.use {all : List Nat} {hs : List ExceptHandler} {l : List MCl} (hK : X.K = X.K) (h : MClauses C X i all hs l) :
    ∃ l3 : List Cls3, Clauses X hs l3 ∧ ∀ (B : Bs) (ρ : List Addr) (F : Hp) (σ : St) (H : Hp) (s : S) (x : Xn) (dd : Option Addr) (D : Ends), (i = false → B.ex = []) → Rel C B ρ F σ H s → XRep C ρ F x (.ref (C.cA x.c)) dd → PostS C B W ρ F (mHs all l x s) D →
      wAny X.K W D l3 (.ref (C.cA x.c)) dd σ H := by
  induction h with
  | nil => exact ⟨[], .nil, fun B ρ F σ H s x dd D hi R rx q => q ρ F σ H _ _ (rfP ρ) (rfX F) R rx⟩
  | @bare x c cs m b bs np hp hs l hn hx hsu r ih =>
    obtain ⟨l3, cl, k⟩ := ih
    obtain ⟨ts, so, ks⟩ := hsu.use
    refine ⟨(c, none, ts) :: l3, .bare hn so cl, fun B ρ F σ H s x dd D hi R rx q => ?_⟩
    simp only [mHs] at q
    split at q
    · next ha =>
      refine ⟨_, hx x.c ha, fun hb a na => ?_, fun hb => ?_⟩
      · rw [if_pos (of_decide_eq_true hb)] at q
        have ne : indep x (fun a dd => leaveH none (m a dd x.c (enterH none a dd x s))) ≠ .err := fun z => by rw [z] at q; exact q
        rw [← indep_ne ne (a := a) (okD_of rx)] at q
        exact ks a x.c dd B ρ F σ H s D ha hi R q.leave0
      · rw [if_neg (of_decide_eq_false hb)] at q
        exact k B ρ F σ H s x dd D hi R rx q
    · exact q.elim
  | @named x n j c cs m b bs np hp hs l hj hln hn hx hsu r ih =>
    obtain ⟨l3, cl, k⟩ := ih
    obtain ⟨ts, so, ks⟩ := hsu.use
    refine ⟨(c, some j, ts) :: l3, .named hj hln hn so cl, fun B ρ F σ H s x dd D hi R rx q => ?_⟩
    simp only [mHs] at q
    split at q
    · next ha =>
      refine ⟨_, hx x.c ha, fun hb a na => ?_, fun hb => ?_⟩
      · rw [if_pos (of_decide_eq_true hb)] at q
        have ne : indep x (fun a dd => leaveH (some j) (m a dd x.c (enterH (some j) a dd x s))) ≠ .err := fun z => by rw [z] at q; exact q
        rw [← indep_ne ne (a := a) (okD_of rx)] at q
        refine ks a x.c dd B ρ F _ H _ _ ha hi (R.setFz (d := .exn a dd x.c x.ns x.ds) (v := .ref a) ⟨rfl, ?_⟩) q.leave
        rcases rx.2 with e | ⟨d, fs, e1, e2, e3, r2⟩
        · exact .inl e
        · exact .inr ⟨d, e1, fs, e2, e3, r2⟩
      · rw [if_neg (of_decide_eq_false hb)] at q
        exact k B ρ F σ H s x dd D hi R rx q
    · exact q.elim
theorem rs_try {body : List Stmt} {h₀ : ExceptHandler} {hs : List ExceptHandler} {all : List Nat} {mb : MS} {l : List MCl} (hst : X.stack = X.env :: X.outer) (hf : X.env.frame = some X.env.locals) (hN : X.N.Nodup) (tk : Takes X W)
    (hb : ∀ (W' : WX) (pn : List (Addr × Obj)) (xe : Value → Shared → Prop), Takes (X.tr pn xe) W' → PassesOwn (model X.prog X.w) X.A X.env xe → RSs C (X.tr pn xe) W' i body mb)
    (hh : MClauses C X i all (h₀ :: hs) l) : RS C X W i (.Try body (h₀ :: hs) [] [] pos) (mTry all mb l) := by
  obtain ⟨l3, cl, kh⟩ := hh.use (W := W) rfl
  have un : ∀ W' : WX, ∃ t : TS, (∀ (pn : List (Addr × Obj)) (xe : Value → Shared → Prop), Takes (X.tr pn xe) W' → PassesOwn (model X.prog X.w) X.A X.env xe → PSs (X.tr pn xe) body t) ∧
      ∀ (B : Bs) (ρ : List Addr) (F : Hp) (σ : St) (H : Hp) (s : S) (D : Ends), (i = false → B.ex = []) → Rel C B ρ F σ H s → PostS C B W' ρ F (mb s) D → t D σ H := fun W' => by
    obtain ⟨t, p, k⟩ := RSs.uni (C := C) (W := W') (i := i) (sts := body) (m := mb) (ι := { z : List (Addr × Obj) × (Value → Shared → Prop) // Takes (X.tr z.1 z.2) W' ∧ PassesOwn (model X.prog X.w) X.A X.env z.2 }) (X := fun z => X.tr z.1.1 z.1.2) fun z => hb W' z.1.1 z.1.2 z.2.1 z.2.2
    exact ⟨t, fun pn xe h1 h2 => p ⟨(pn, xe), h1, h2⟩, k⟩
  refine ⟨_, ps_try_any (tb := fun W' => (un W').choose) hst hf hN tk (fun W' pn xe h1 h2 => (un W').choose_spec.1 pn xe h1 h2) cl, fun B ρ F σ H s D hi R h => ?_⟩
  refine (un (wAny X.K W D l3)).choose_spec.2 B ρ F σ H s D hi R ?_
  unfold mTry at h
  cases q : mb s with
  | nx s' => rw [q] at h; exact h
  | rt d s' => rw [q] at h; exact h
  | bk s' => rw [q] at h; exact h
  | ct s' => rw [q] at h; exact h
  | err => rw [q] at h; exact h
  | exc x s' =>
    rw [q] at h
    rintro ρ' F' σ' H' cls dd p x2 R' rx
    obtain rfl : cls = .ref (C.cA x.c) := rx.1
    exact kh B ρ' F' σ' H' s' x dd D hi R' rx (PostS.weak h p x2)
/-! ### the caught one's kind, its fields -/
def mIsX (a0 : Addr) (d0 : Option Addr) (k0 : Nat) (b : Bool) (a : ME) : ME := fun s => if d0 = none then (a s).bind fun d s' => match d with
    | .exn a' d' c _ _ => if a' = a0 ∧ d' = d0 ∧ c = k0 then .ok (.bl b) s' else .err
    | _ => .err
  else .err
theorem re_isX {a : Addr} {k : Nat} {dd : Option Addr} {oe : Obj} {pn : List (Addr × Obj)} {y : Str} {e : Expr} {m : ME} {b : Bool} {T : String} {p p2 : Pos} (E : ExcC X.K (C.cA k)) (hz : Zc (.ref (C.cA k)) dd oe) (hf : ∃ vs, oe.data = .fields vs) (hg : Gl X "isinstance") (hm : X.mg "isinstance" = none)
    (hgT : Gl X y) (hmT : X.mg y = none) (hvT : bootBuiltins y = some (.type T)) (hk : PySem.W.kitOne X.K (.ref (C.cA k)) (.type T) = some b) (he : RE C (X.suite a ((a, oe) :: pn)) W e m) (hn : y ≠ "__name__") (hdb : (y == ("__debug__" : Str)) = false)
    (hb : bootBuiltins "isinstance" = some (.builtin "isinstance") := by decide +kernel) (hs : starEach [e, .Name y p2] X.env = (false, eval e X.env) :: starEach [.Name y p2] X.env := by rfl) (hs2 : starEach [.Name y p2] X.env = (false, eval (.Name y p2) X.env) :: starEach [] X.env := by rfl)
    (hpl : (backTo pos (starEach [.Name y p2] X.env)).any (·.1) = false := by rfl) :
    RE C (X.suite a ((a, oe) :: pn)) W (.Call (.Name "isinstance" p) [e, .Name y p2] [] pos) (mIsX a dd k b m) := by
  obtain ⟨t, pe, ke⟩ := he
  cases dd with
  | some d =>
    exact ⟨fun _ _ _ => False, ⟨fun _ _ _ _ _ _ h => h.elim⟩, fun B ρ F σ H s Q R h => by
      unfold mIsX at h
      rw [if_neg (by simp)] at h
      exact h⟩
  | none =>
    refine ⟨_, pe_callB (X := X.suite a ((a, oe) :: pn)) (call_isE E hz hf) hg hm hb (pa_cons pe (pa_cons (pe_bltn (X := X.suite a ((a, oe) :: pn)) (v := .ty T) hgT hmT hvT rfl hn hdb) pa_nil hs2) hs) (by decide) (by decide) hs hpl, fun B ρ F σ H s Q R h => ?_⟩
    unfold mIsX at h
    rw [if_pos rfl] at h
    refine ke B ρ F σ H s _ R (h.bind fun d s1 _ ρ1 F1 H1 v _ _ R1 r1 h1 => ?_)
    split at h1
    · next a' d' c ns ds =>
      split at h1
      · next hc =>
        obtain ⟨rfl, _⟩ := hc
        obtain ⟨rfl, _⟩ := r1
        exact ⟨.ty T, .type T, b, rfl, fun u r => r, hk, h1.now (rfP ρ1) (rfX F1) R1 rfl⟩
      · exact h1.elim
    · exact h1.elim
end
end ML
end
section
set_option Elab.async false
set_option linter.all false
set_option maxRecDepth 100000
set_option autoImplicit false
/-! ML16: chains of three, two-place min and max, divmod, lists unpacked, changes in place, own classes asked for, what is done with slots lent. -/
namespace ML
open PySem PySem.Spec PyProof.Rows L2
/-! ### a op b op c op d -/
def tChain3 (r1 r2 r3 : R2) (ta tb tc td : TE) : TE := fun σ H Q => ta σ H fun x H1 => tb σ H1 fun y H2 => r1 x y H2 fun z H3 => ∃ k, z = .bl k ∧
  (if k = true then tc σ H3 fun u H4 => r2 y u H4 fun z H5 => ∃ k, z = .bl k ∧ (if k = true then td σ H5 fun v H6 => r3 u v H6 Q else Q (.bl false) H5) else Q (.bl false) H3)
section
variable {X : Cx} {a b c d : Expr} {ta tb tc td : TE} {pos : Pos}
theorem pe_chain3 {o1 o2 o3 : CmpOp} {r1 r2 r3 : R2} (h1 : OpR X (compareOp o1) r1) (h2 : OpR X (compareOp o2) r2) (h3 : OpR X (compareOp o3) r3) (ha : PE X a ta) (hb : PE X b tb) (hc : PE X c tc) (hd : PE X d td)
    (hm : lastMarks [o1, o2, o3] [b, c, d] = false) : PE X (.Compare a [o1, o2, o3] [b, c, d] pos) (tChain3 r1 r2 r3 ta tb tc td) := by
  refine ⟨fun pins s σ H Q I h => Compare_chain (thn (ha.run pins s σ H _ I h) fun v s1 ⟨x, H1, I1, e1, q1⟩ => chain_link (thn (hb.run pins s1 σ H1 _ I1 q1) fun u s2 ⟨y, H2, I2, e2, q2⟩ => thn (h1 pins s2 σ H2 x y v u _ I2 e1 e2 q2) fun w s3 ⟨z, H3, I3, e3, k, ez, q3⟩ => ?_)) hm⟩
  subst ez
  cases e3
  refine wpAny_truthy_bool ?_
  cases k with
  | false => exact ite_ff ⟨.bl false, H3, I3, rfl, q3⟩
  | true =>
    refine ite_tt (chain_link (thn (hc.run pins s3 σ H3 _ I3 q3) fun w s4 ⟨z, H4, I4, e4, q4⟩ => thn (h2 pins s4 σ H4 y z u w _ I4 e2 e4 q4) fun w' s5 ⟨z', H5, I5, e5, k, ez, q5⟩ => ?_))
    subst ez
    cases e5
    refine wpAny_truthy_bool ?_
    cases k with
    | false => exact ite_ff ⟨.bl false, H5, I5, rfl, q5⟩
    | true => exact ite_tt (chain_last (thn (hd.run pins s5 σ H5 _ I5 q5) fun w2 s6 ⟨z2, H6, I6, e6, q6⟩ => h3 pins s6 σ H6 z z2 w w2 Q I6 e4 e6 q6))
end
def mChain3 (f g h : D → D → Option D) (a b c d : ME) : ME := fun s => (a s).bind fun d1 s1 => (b s1).bind fun d2 s2 => (lift2 f d1 d2 s2).bind fun k s3 => match k with
  | .bl true => (c s3).bind fun d3 s4 => (lift2 g d2 d3 s4).bind fun k s5 => match k with
    | .bl true => (d s5).bind fun d4 s6 => lift2 h d3 d4 s6
    | .bl false => .ok (.bl false) s5
    | _ => .err
  | .bl false => .ok (.bl false) s3
  | _ => .err
section
variable {C : Ctx} {X : Cx} {W : WX} {pos : Pos} {B : Bs} {ρ ρ' : List Addr} {F F' : Hp} {σ : St} {H H' : Hp} {s : S} {i : Bool}
theorem re_chain3 {o1 o2 o3 : CmpOp} {a b c d : Expr} {r1 r2 r3 : R2} {f g h : D → D → Option D} {ma mb mc md : ME} (h1 : OpR X (compareOp o1) r1) (h2 : OpR X (compareOp o2) r2) (h3 : OpR X (compareOp o3) r3) (hf : SemB C r1 f) (hg : SemB C r2 g) (hh : SemB C r3 h)
    (ha : RE C X W a ma) (hb : RE C X W b mb) (hc : RE C X W c mc) (hd : RE C X W d md) (hm : lastMarks [o1, o2, o3] [b, c, d] = false := by with_unfolding_all rfl) : RE C X W (.Compare a [o1, o2, o3] [b, c, d] pos) (mChain3 f g h ma mb mc md) := by
  obtain ⟨ta, pa, ka⟩ := ha
  obtain ⟨tb, pb, kb⟩ := hb
  obtain ⟨tc, pc, kc⟩ := hc
  obtain ⟨td, pd, kd⟩ := hd
  refine ⟨_, pe_chain3 h1 h2 h3 pa pb pc pd hm, fun B ρ F σ H s Q R q => ?_⟩
  refine ka B ρ F σ H s _ R (q.bind fun d1 s1 _ ρ1 F1 H1 x _ _ R1 e1 q1 => ?_)
  refine kb B ρ1 F1 σ H1 s1 _ R1 (q1.bind fun d2 s2 _ ρ2 F2 H2 y p2 x2 R2 e2 q2 => ?_)
  refine lift2_bind hf R2 (RepT.mono p2 x2 e1) e2 q2 fun k ρ3 F3 H3 v p3 x3 R3 rv q3 => ?_
  split at q3
  · refine ⟨true, rv, ?_⟩
    rw [if_pos rfl]
    refine kc B ρ3 F3 σ H3 s2 _ R3 (q3.bind fun d3 s4 _ ρ4 F4 H4 z p4 x4 R4 e4 q4 => ?_)
    refine lift2_bind hg R4 (RepT.mono p4 x4 (RepT.mono p3 x3 e2)) e4 q4 fun k ρ5 F5 H5 v p5 x5 R5 rv q5 => ?_
    split at q5
    · refine ⟨true, rv, ?_⟩
      rw [if_pos rfl]
      refine kd B ρ5 F5 σ H5 s4 _ R5 (q5.bind fun d4 s6 _ ρ6 F6 H6 z2 p6 x6 R6 e6 q6 => ?_)
      exact lift2_ok hh R6 (RepT.mono p6 x6 (RepT.mono p5 x5 e4)) e6 q6
    · refine ⟨false, rv, ?_⟩
      rw [if_neg Bool.false_ne_true]
      exact q5.now (rfP ρ5) (rfX F5) R5 rfl
    · exact q5.elim
  · refine ⟨false, rv, ?_⟩
    rw [if_neg Bool.false_ne_true]
    exact q3.now (rfP ρ3) (rfX F3) R3 rfl
  · exact q3.elim
/-! ### min, max of two; divmod -/
def max2D : List D → Option D
  | [.int a, .int b] => some (.int (if b > a then b else a))
  | _ => none
def min2D : List D → Option D
  | [.int a, .int b] => some (.int (if b < a then b else a))
  | _ => none
theorem sem_max2 : SemC C (fun xs H Q => ∃ i j, xs = [.int i, .int j] ∧ Q (.int (if j > i then j else i)) H) max2D := by
  intro ρ F H cs d vs Q xf v e k
  unfold max2D at e
  split at e
  · cases e
    obtain ⟨v1, v2, rfl, r1, r2⟩ := vwL2 v
    obtain rfl : v1 = V.int _ := (Vw.flat rfl).mp r1
    obtain rfl : v2 = V.int _ := (Vw.flat rfl).mp r2
    exact ⟨_, _, rfl, nowC k rfl⟩
  · cases e
theorem sem_min2 : SemC C (fun xs H Q => ∃ i j, xs = [.int i, .int j] ∧ Q (.int (if j < i then j else i)) H) min2D := by
  intro ρ F H cs d vs Q xf v e k
  unfold min2D at e
  split at e
  · cases e
    obtain ⟨v1, v2, rfl, r1, r2⟩ := vwL2 v
    obtain rfl : v1 = V.int _ := (Vw.flat rfl).mp r1
    obtain rfl : v2 = V.int _ := (Vw.flat rfl).mp r2
    exact ⟨_, _, rfl, nowC k rfl⟩
  · cases e
def divmodD : List D → Option D
  | [.int a, .int b] => if 0 < b ∧ (b < 1073741824 ∨ Builtin.divisionGoesByPylong a b = false) then some (.tup [.int (a / b), .int (a % b)]) else none
  | _ => none
theorem call_divmodX : ∃ r, CallR X (.builtin "divmod") r ∧ SemC C r divmodD := by
  refine ⟨_, call_divmod.or call_divmodW, fun ρ F H cs d vs Q xf v e k => ?_⟩
  unfold divmodD at e
  split at e
  · split at e
    · next a b hz =>
      cases e
      obtain ⟨v1, v2, rfl, r1, r2⟩ := vwL2 v
      obtain rfl : v1 = V.int _ := (Vw.flat rfl).mp r1
      obtain rfl : v2 = V.int _ := (Vw.flat rfl).mp r2
      have go : ∀ p, H p = none → Q (.ref p) (upd H p (.tup [.int (a / b), .int (a % b)])) := fun p hp => k _ _ _ (Grow.one hp) ⟨p, _, rfl, upd_same, _, rfl, ⟨_, _, rfl, rfl, _, _, rfl, rfl, rfl⟩⟩
      rcases hz with ⟨h0, h1 | h1⟩
      · exact .inl ⟨a, b, rfl, ⟨by omega, h1⟩, go⟩
      · exact .inr ⟨a, b, rfl, ⟨h0, h1⟩, go⟩
    · cases e
  · cases e
/-! ### a, b, .. = a list -/
def gLs (n : Nat) (gs : List D → S → Option S) : D → S → Option S
  | .lst ds, s => if ds.length = n then gs ds s else none
  | _, _ => none
theorem rg_lst {es : List Expr} {k n : Nat} {js : List Nat} {gs : List D → S → Option S} (hc : X.calm = true) (h : RGs C X es js gs) (hn : (assignEach es X.env).length = n := by rfl) (hst : (assignEach es X.env).findIdx? (·.1) = none := by rfl) : RG C X (.Tuple es k pos) js (gLs n gs) := by
  obtain ⟨t2, p2, k2⟩ := h
  refine ⟨_, pg_lst hc p2 hn hst, fun B ρ F σ H s s' d v Q R r e k => ?_⟩
  cases d with
  | lst ds =>
    obtain ⟨a, o, rfl, h1, vs, rfl, rr⟩ := r
    simp only [gLs] at e
    split at e
    · next hl => exact ⟨a, vs, rfl, .inl (.inl (R.sub _ _ h1)), by rw [rr.length]; exact hl, k2 B ρ F σ H s s' ds vs Q R rr e k⟩
    · cases e
  | _ => cases e
/-! ### name op= e, x[i] op= e: ints -/
def mAug (f : Int → Int → Int) (j : Nat) (a : ME) : MS := fun s => match s.env[j]? with
  | some (.fz (.int x)) => (a s).thenS fun d s' => match d with
    | .int y => .nx (setS j (.fz (.int (f x y))) s')
    | _ => .err
  | _ => .err
theorem rs_aug {j : Nat} {x : Str} {e : Expr} {m : ME} {op : Operator} {f : Int → Int → Int} {pos' : Pos} (hN : X.N.Nodup) (hi : X.N[j]? = some x) (hx : Loc X.env.scope x) (ho : PIp X op (ipI f)) (he : RE C X W e m)
    (hf : X.fn x = true ∨ X.env.scope.names.lookup x = some .local := by first | exact .inl rfl | exact .inr rfl | assumption) : RS C X W i (.AugAssign (.Name x pos') op e pos) (mAug f j m) := by
  obtain ⟨te, pe, ke⟩ := he
  refine ⟨_, ps_aug hN hi hx pe ho hf, fun B ρ F σ H s D hi R h => ?_⟩
  unfold mAug at h
  split at h
  · next n e =>
    obtain ⟨v, e1, r⟩ := R.fz j _ e
    obtain rfl : v = V.int n := r
    refine ⟨_, e1, ke B ρ F σ H s _ R (h.bind fun d s1 _ ρ1 F1 H1 v _ _ R1 r1 h1 => ?_)⟩
    split at h1
    · next y _ =>
      obtain rfl : v = V.int y := r1
      exact ⟨n, y, rfl, rfl, h1 ρ1 F1 _ H1 (rfP ρ1) (rfX F1) (R1.setFz rfl)⟩
    · exact h1.elim
  · exact h.elim
def mAugIx (f : Int → Int → Int) (mo mi mv : ME) : MS := fun s => (mo s).thenS fun d s1 => (mi s1).thenS fun j s2 => match cont s2 d, j with
  | some (.lst ds), .int k => if 0 ≤ k then match ds[k.toNat]? with
      | some (.int x) => (mv s2).thenS fun v s3 => match v with
        | .int y => match cont s3 d with
          | some (.lst es) => if es.length = ds.length then match putP s3 d (.lst (es.set k.toNat (.int (f x y)))) with
              | some s4 => .nx s4
              | none => .err
            else .err
          | _ => .err
        | _ => .err
      | _ => .err
    else .err
  | _, _ => .err
def rGetL : V → V → Hp → VK → Prop := fun o i H Q => ∃ p xs k v, o = .ref p ∧ i = .int k ∧ H p = some (.lst xs) ∧ 0 ≤ k ∧ xs[k.toNat]? = some v ∧ Q v H
theorem get_lst : PGet X rGetL := by
  intro pins s σ H o i ov iv Q I ro ri h
  obtain ⟨p, xs, k, v, rfl, rfl, hp, h0, hv, q⟩ := h
  cases ro
  obtain ⟨t, rfl⟩ := ri
  obtain ⟨its, r, pl, hz⟩ := I.list (.inl (.inl hp))
  obtain ⟨w, ew, rw'⟩ := r.get hv
  have hn := line63
  have hl := (List.getElem?_eq_some_iff.mp hv).1
  exact wpAny_getItem_list pl.isList h0 (by omega) (by simpa using ew) ⟨v, H, I, rw', q⟩
theorem rs_augIx {o e j : Expr} {mo mi mv : ME} {op : Operator} {f : Int → Int → Int} {pos' : Pos} (hK : X.K = C.K) (ho : PIp X op (ipI f)) (h1 : RE C X W o mo) (h2 : RE C X W j mi) (h3 : RE C X W e mv)
    (ha : ∀ ov iv new, augStore j ov iv new = (do holding [new, ov, iv] (setItem ov iv new); release [new, ov, iv] []; pure .next) := by intros; rfl) : RS C X W i (.AugAssign (.Subscript o j pos') op e pos) (mAugIx f mo mi mv) := by
  obtain ⟨to, po, ko⟩ := h1
  obtain ⟨ti, pi, ki⟩ := h2
  obtain ⟨tv, pv, kv⟩ := h3
  refine ⟨_, ps_augS po pi get_lst pv ho set_list ha, fun B ρ F σ H s D hi R h => ?_⟩
  refine ko B ρ F σ H s _ R (h.bind fun d s1 _ ρ1 F1 H1 x _ _ R1 r1 h1 => ?_)
  refine ki B ρ1 F1 σ H1 s1 _ R1 (h1.bind fun j s2 _ ρ2 F2 H2 y p2 x2 R2 r2 h2 => ?_)
  split at h2
  · next ds k hc _ =>
    split at h2
    · next h0 =>
      split at h2
      · next n hn =>
        have r1' := RepT.mono p2 x2 r1
        obtain ⟨a, vs, rfl, ha, rl⟩ := vw_lst (R2.view r1' hc)
        obtain rfl : y = V.int k := r2
        obtain ⟨w, hw, rw'⟩ := rl.get hn
        obtain rfl : w = V.int n := rw'
        refine ⟨a, vs, k, _, rfl, rfl, ha, h0, hw, ?_⟩
        refine kv B ρ2 F2 σ H2 s2 _ R2 (h2.bind fun v s3 _ ρ3 F3 H3 y p3 x3 R3 r3 h3 => ?_)
        split at h3
        · next m _ =>
          obtain rfl : y = V.int m := r3
          refine ⟨n, m, rfl, rfl, ?_⟩
          split at h3
          · next es hc3 =>
            split at h3
            · next hl =>
              split at h3
              · next s4 hp =>
                obtain ⟨a3, o3, e3, g3, ⟨ws, rfl, rl3⟩, kk⟩ := R3.put (RepT.mono p3 x3 r1') hc3 hp
                cases e3
                have hlt := (List.getElem?_eq_some_iff.mp hn).1
                refine ⟨a, ws, k, k.toNat, rfl, rfl, g3, ?_, ?_⟩
                · unfold ixN
                  rw [if_pos h0, if_pos (by rw [rl3.length, hl]; omega)]
                · exact h3 ρ3 F3 σ _ (rfP ρ3) (rfX F3) (kk _ ⟨_, rfl, rl3.set (d := .int (f n m)) (v := V.int (f n m)) rfl k.toNat⟩ trivial)
              · exact h3.elim
            · exact h3.elim
          · exact h3.elim
        · exact h3.elim
      · exact h2.elim
    · exact h2.elim
  · exact h2.elim
/-! ### isinstance(x, K), K an own class, x of such a class -/
def mIsK (yes : List Nat) (a : ME) : ME := fun s => (a s).bind fun d s' => match cont s' d with
  | some (.obj c _ _) => if c ∈ yes then .ok (.bl true) s' else .err
  | _ => .err
structure KindOk (C : Ctx) (X : Cx) (yes : List Nat) (k : Addr) : Prop where
  ok : ∀ c ∈ yes, (∀ H a dx fs, H a = some (.ins (C.cA c) dx fs) → TyX X.K H (.ref a) (.ref (C.cA c))) ∧ PySem.W.kitOne X.K (.ref (C.cA c)) (.ref k) = some true
theorem re_isK {yes : List Nat} {k : Addr} {y : Str} {a : Expr} {ma : ME} {p p2 : Pos} (K : KindOk C X yes k) (hg : Gl X "isinstance") (hm : X.mg "isinstance" = none) (hgT : Gl X y) (hmT : X.mg y = some (.ref k)) (ha : RE C X W a ma) (hyd : (y == ("__debug__" : Str)) = false := by decide)
    (hb : bootBuiltins "isinstance" = some (.builtin "isinstance") := by decide +kernel) (he : starEach [a, .Name y p2] X.env = (false, eval a X.env) :: starEach [.Name y p2] X.env := by rfl) (he2 : starEach [.Name y p2] X.env = (false, eval (.Name y p2) X.env) :: starEach [] X.env := by rfl)
    (hpl : (backTo pos (starEach [.Name y p2] X.env)).any (·.1) = false := by rfl) : RE C X W (.Call (.Name "isinstance" p) [a, .Name y p2] [] pos) (mIsK yes ma) := by
  obtain ⟨ta, pa, ka⟩ := ha
  refine ⟨_, pe_callB call_isi hg hm hb (pa_cons pa (pa_cons (pe_glob (v := .ref k) hgT hmT rfl hyd) pa_nil he2) he) (by decide) (by decide) he hpl, fun B ρ F σ H s Q R h => ?_⟩
  refine ka B ρ F σ H s _ R (h.bind fun d s1 _ ρ1 F1 H1 v _ _ R1 r1 h1 => ?_)
  split at h1
  · next c ns ds hc =>
    split at h1
    · next hy =>
      obtain ⟨a, dx, fs, rfl, g1, _, _⟩ := vw_obj (R1.view r1 hc)
      obtain ⟨k1, k2⟩ := K.ok c hy
      exact ⟨.ref a, .ref k, .ref (C.cA c), .ref k, true, rfl, .own k, k1 _ _ _ _ g1, k2, h1.now (rfP ρ1) (rfX F1) R1 rfl⟩
    · exact h1.elim
  · exact h1.elim
/-! ### done with the slots lent, no cell in sight -/
def lendSl : Sl → Sl
  | .fz d => if clean d = true then .fz d else .no
  | .ow d => if clean d = true then .fz d else .no
  | .no => .no
def lendE (e : List Sl) : List Sl := e.map lendSl
def flats : List D → Bool
  | [] => true
  | d :: ds => flatB d && flats ds
def flatL : D → Bool
  | .lst ds => flats ds
  | _ => false
def mPure (m : ME) : ME := fun s => match m ⟨lendE s.env, []⟩ with
  | .ok d _ => if flatL d = true then .ok d s else .err
  | _ => .err
theorem flats_rep : ∀ {ds : List D} {vs : List V}, flats ds = true → RepL C ρ F ds vs → RepL C ρ' F' ds vs
  | [], _, _, h => h
  | d :: ds, _, c, ⟨v, r, e, h, t⟩ => by
    simp only [flats, Bool.and_eq_true] at c
    exact ⟨v, r, e, flat_rep c.1 h, flats_rep c.2 t⟩
theorem Rel.lentAll (R : Rel C B ρ F σ H s) : Rel C (frBs H (lent F σ H s) []) [] (lent F σ H s) σ H ⟨lendE s.env, []⟩ := by
  refine ⟨(lent_ex R).2, by simp [lendE, R.len], fun i d e => ?_, fun i d e => ?_, rfl, fun _ _ _ e => by simp at e, List.nodup_nil, List.prefix_refl _, fun _ _ _ e => by simp at e, fun _ _ e _ _ => e, fun a o e => ⟨o, e⟩, Ex.refl _, fun _ _ e => .inl e⟩
  · have e : (s.env.map lendSl)[i]? = some (.fz d) := e
    rw [List.getElem?_map] at e
    cases q : s.env[i]? with
    | none => rw [q] at e; cases e
    | some x =>
      rw [q] at e
      have e : lendSl x = .fz d := Option.some.inj e
      cases x with
      | no => cases e
      | fz d' =>
        have e : (if clean d' = true then Sl.fz d' else .no) = .fz d := e
        split at e
        · next hc =>
          cases e
          obtain ⟨v, e1, r⟩ := R.fz i _ q
          exact ⟨v, e1, (r.mono (rfP ρ) (lent_ex R).1).clean hc⟩
        · cases e
      | ow d' =>
        have e : (if clean d' = true then Sl.fz d' else .no) = .fz d := e
        split at e
        · next hc =>
          cases e
          obtain ⟨a, o, g1, g2, _, g4, gr, _⟩ := R.ow i _ q
          have hm : lent F σ H s a = some o := by
            unfold lent
            rw [if_pos (mem_owns q g1)]
            exact g4
          exact ⟨.ref a, g1, (rep_box (objR_box gr)).mpr ⟨a, o, rfl, hm, (gr.mono (rfP ρ) (lent_ex R).1).clean hc⟩⟩
        · cases e
  · have e : (s.env.map lendSl)[i]? = some (.ow d) := e
    rw [List.getElem?_map] at e
    cases q : s.env[i]? with
    | none => rw [q] at e; cases e
    | some x =>
      rw [q] at e
      have e : lendSl x = .ow d := Option.some.inj e
      cases x with
      | no => cases e
      | fz d' =>
        have e : (if clean d' = true then Sl.fz d' else .no) = .ow d := e
        split at e <;> cases e
      | ow d' =>
        have e : (if clean d' = true then Sl.fz d' else .no) = .ow d := e
        split at e <;> cases e
theorem rf_pure {e : Expr} {m : ME} (h : RF C X W e m) : RF C X W e (mPure m) := by
  obtain ⟨t, p, k⟩ := h
  refine ⟨t, p, fun B ρ F σ H s Q R h => ?_⟩
  refine k _ _ _ σ H _ Q R.lentAll ?_
  unfold mPure at h
  cases q : m ⟨lendE s.env, []⟩ with
  | err => rw [q] at h; exact h.elim
  | exc x s1 => rw [q] at h; exact h.elim
  | ok d s1 =>
    rw [q] at h
    have h : Post C B W σ (repF C B σ) ρ F (if flatL d = true then .ok d s else .err) Q := h
    split at h
    · next hc =>
      rintro ρ' F' H' v _ _ T ⟨p, o, rfl, l, ro, mo⟩
      have hk : Ex H H' := fun a o e => T.kept a o e List.not_mem_nil List.not_mem_nil
      refine h.now (rfP ρ) (rfX F) (R.ext hk (rfX F) (R.sub.trans hk) fun _ _ e => .inl e) ⟨p, o, rfl, ⟨?_, ?_, l.h, fun hm => ?_, fun j d' e z => ?_⟩, ?_, mo⟩
      · exact R.sub.back (show H p = none from l.h0)
      · exact (R.fresh (show H p = none from l.h0)).2.1
      · exact (R.fresh (show H p = none from l.h0)).2.2 hm
      · obtain ⟨a, u, e1, _, _, e4, _⟩ := R.ow j d' e
        rw [e1] at z
        cases z
        have : H p = none := l.h0
        rw [this] at e4
        cases e4
      · cases d with
        | lst ds =>
          obtain ⟨vs, e, r⟩ := ro
          exact ⟨vs, e, flats_rep hc r⟩
        | _ => cases hc
    · exact h.elim
/-! ### max(xs, default=e) -/
def intsD : List D → Option (List Int)
  | [] => some []
  | .int i :: ds => match intsD ds with
    | some r => some (i :: r)
    | none => none
  | _ => none
theorem intsD_ok : ∀ {ds : List D} {ns : List Int} {vs : List V}, RepL C ρ F ds vs → intsD ds = some ns → vs = ns.map V.int
  | [], _, _, h, e => by cases e; exact h
  | d :: ds, ns, _, ⟨v, r, e, h, t⟩, q => by
    subst e
    cases d with
    | int i =>
      simp only [intsD] at q
      split at q
      · next r' e' =>
        cases q
        obtain rfl : v = V.int i := h
        rw [intsD_ok t e']
        rfl
      · cases q
    | _ => cases q
def mMaxDf (ma md : ME) : ME := fun s => (ma s).bind fun d s1 => (md s1).bind fun k s2 => match cont s2 d, k with
  | some (.lst ds), .int z => match intsD ds with
    | some [] => .ok (.int z) s2
    | some (n :: ns) => .ok (.int (ns.foldl max n)) s2
    | none => .err
  | _, _ => .err
def rMaxDf : List V → List V → Hp → VK → Prop := fun xs zs H Q => ∃ (p : Addr) (ns : List Int) (z : Int), xs = [.ref p] ∧ zs = [.int z] ∧ H p = some (.lst (ns.map V.int)) ∧ Q (.int (match ns with | [] => z | n :: r => r.foldl max n)) H
theorem reads_ints {h : Heap} : ∀ {ns : List Int} {its : List Value}, Vals (ns.map V.int) its → ReadsAll h its (ns.map PyData.int) []
  | [], _, r => by cases r; exact .nil
  | n :: ns, _, r => by
    cases r with
    | cons r1 r2 =>
      obtain ⟨t, rfl⟩ := r1
      exact .cons (as := []) (bs := []) (.int n t) (reads_ints r2)
theorem alike_ints' (ns : List Int) : PySem.W.AlikeAll (ns.map PyData.int) := by
  refine ⟨fun x hx y hy => ?_, fun x hx z => ?_⟩
  · obtain ⟨a, _, rfl⟩ := List.mem_map.mp hx
    obtain ⟨b, _, rfl⟩ := List.mem_map.mp hy
    rfl
  · obtain ⟨a, _, rfl⟩ := List.mem_map.mp hx
    cases z
theorem call_maxDf (hc : X.calm = true) (hu : X.A.units + 1 < cLine) : CallRK X (.builtin "max") ["default"] rMaxDf := by
  intro pins s σ H xs zs us ws Q I r rz h
  obtain ⟨p, ns, z, rfl, rfl, hp, q⟩ := h
  obtain ⟨u, rfl, ru⟩ := vals1 r
  obtain rfl : u = Value.ref p := ru
  obtain ⟨w', rfl, t, rfl⟩ := vals1 rz
  obtain ⟨its, rv, pl, hz⟩ := I.list (.inl (.inl hp))
  refine PySem.W.max_list_default (xs := ns.map PyData.int) (as := []) (I.ok.hd hc) pl.isList (by simpa using reads_ints rv) (alike_ints' ns) (by rw [PySem.W.depth_ints]; exact hu) (fun e h' tk k => ?_) fun y ys i v h' tk bs e hv rd k => ?_
  · cases ns with
    | nil => exact ⟨.int z, H, I.kept k, ⟨t, rfl⟩, q⟩
    | cons n ns => cases e
  · cases ns with
    | nil => cases e
    | cons n ns =>
      simp only [List.map_cons, List.cons.injEq] at e
      obtain ⟨e1, e2⟩ := e
      subst e1 e2
      rw [PySem.W.maxD_ints] at rd
      cases rd with
      | int i t => exact ⟨.int _, H, I.kept k, ⟨t, rfl⟩, q⟩
theorem re_maxDf {a z : Expr} {ma mz : ME} {p kp : Pos} (hc : X.calm = true) (hu : X.A.units + 1 < cLine) (hg : Gl X "max") (hm : X.mg "max" = none) (ha : RE C X W a ma) (hz : RE C X W z mz) (hb : bootBuiltins "max" = some (.builtin "max") := by decide +kernel)
    (hs : starEach [a] X.env = (false, eval a X.env) :: starEach [] X.env := by rfl)
    (he : backTo pos (starEach [a] X.env) = (false, eval a X.env) :: backTo pos (starEach [] X.env) := by rfl) (hpl : (backTo pos (starEach [a] X.env)).any (·.1) = false := by rfl)
    (hall : (backToKw pos (keywordEach [⟨some "default", z, kp⟩] X.env)).all (·.1.isSome) = true := by rfl) (hnone : (backToKw pos (keywordEach [⟨some "default", z, kp⟩] X.env)).any (·.1.isNone) = false := by rfl) (hks : (backToKw pos (keywordEach [⟨some "default", z, kp⟩] X.env)).filterMap (·.1) = [("default" : Str)] := by rfl) :
    RE C X W (.Call (.Name "max" p) [a] [⟨some "default", z, kp⟩] pos) (mMaxDf ma mz) := by
  obtain ⟨ta, pa, ka⟩ := ha
  obtain ⟨tz, pz, kz⟩ := hz
  refine ⟨_, pe_callBK (call_maxDf hc hu) hg hm hb (pa_cons pa pa_nil hs) (pk_cons pz pk_nil) (by decide) (by decide) he hpl hall hnone hks, fun B ρ F σ H s Q R h => ?_⟩
  refine ka B ρ F σ H s _ R (h.bind fun d s1 _ ρ1 F1 H1 v _ _ R1 r1 h1 => ?_)
  refine kz B ρ1 F1 σ H1 s1 _ R1 (h1.bind fun k s2 _ ρ2 F2 H2 w p2 x2 R2 r2 h2 => ?_)
  split at h2
  · next ds z hc _ =>
    obtain ⟨a, vs, rfl, g, rl⟩ := vw_lst (R2.view (RepT.mono p2 x2 r1) hc)
    obtain rfl : w = V.int z := r2
    split at h2
    · next e =>
      obtain rfl := intsD_ok rl e
      exact ⟨a, [], z, rfl, rfl, g, h2.now (rfP ρ2) (rfX F2) R2 rfl⟩
    · next n ns e =>
      obtain rfl := intsD_ok rl e
      exact ⟨a, n :: ns, z, rfl, rfl, g, h2.now (rfP ρ2) (rfX F2) R2 rfl⟩
    · exact h2.elim
  · exact h2.elim
end
end ML
end
section
set_option Elab.async false
set_option linter.all false
set_option maxRecDepth 100000
set_option autoImplicit false
/-! ML17: the lemmas as a printed derivation names them: k_.. ; what a context has (Kb, Kx), what a def's name stands for (DefOk). -/
namespace ML
open PySem PySem.Spec PyProof.Rows L2
structure Kb (C : Ctx) (X : Cx) (W : WX) (k : Nat) : Prop where
  hK : X.K = C.K
  calm : X.calm = true
  tk : Takes X W
  hr : Room k X.A
  nd : X.N.Nodup
structure Ks (C : Ctx) (X : Cx) : Prop where
  hK : X.K = C.K
  u : X.A.units + 64 < cLine
structure Kx (C : Ctx) (X : Cx) (W : WX) (k : Nat) : Prop extends Kb C X W k where
  hp : PassesOwn (model X.prog X.w) X.A X.env X.xe
  st : X.stack = X.env :: X.outer
  fr : X.env.frame = some X.env.locals
/-- the name x of the module is a def that does m; n its parameters, dds the defaults of those that are not written -/
structure DefOk (P : Program) (w : World) (mg : Str → Option Value) (base : Heap) (C : Ctx) (k n : Nat) (x : Str) (m : PF) (dds : List D) : Prop where
  ok : ∃ f : Addr, mg x = some (.ref f) ∧ PySem.W.keepIn C.K (.ref f) = true ∧ ∃ (fd : FuncData) (ps : List Str) (dvs : List V) (ds : List Value), FnOk P w C.K mg base (L2.CX P w) k f fd ps (spF C n m) ∧ Binds C.K fd ps ds ∧ Vals dvs ds ∧ RepL C [] (fun _ => none) dds dvs
structure MakeOk (P : Program) (w : World) (mg : Str → Option Value) (base : Heap) (C : Ctx) (k n : Nat) (c : Nat) (x : Str) (m : PF) (dds : List D) : Prop where
  gl : mg x = some (.ref (C.cA c))
  ok : ∃ (f : Addr) (fd : FuncData) (ps : List Str) (dvs : List V) (ds : List Value), Mk C.K (C.cA c) f ∧ FnOk P w C.K mg base (L2.CX P w) k f fd ps (spF C n m) ∧ Binds C.K fd ps ds ∧ Vals dvs ds ∧ RepL C [] (fun _ => none) dds dvs
structure MethOk (P : Program) (w : World) (mg : Str → Option Value) (base : Heap) (C : Ctx) (k n : Nat) (c : Nat) (nm : Str) (m : PF) (dds : List D) : Prop where
  ok : ∃ (f : Addr) (fd : FuncData) (ps : List Str) (dvs : List V) (ds : List Value), Cls C.K (C.cA c) ∧ Meth C.K (C.cA c) nm f ∧ FnOk P w C.K mg base (L2.CX P w) k f fd ps (spF C n m) ∧ Binds C.K fd ps ds ∧ Vals dvs ds ∧ RepL C [] (fun _ => none) dds dvs
def GInt (mg : Str → Option Value) (x : Str) (i : Int) : Prop := ∃ t, mg x = some (.int i t)
def GStr (mg : Str → Option Value) (x z : Str) : Prop := ∃ t, mg x = some (.str z t)
section
variable {C : Ctx} {X : Cx} {W : WX} {pos p p2 apos cpos : Pos} {k : Nat} {i : Bool}
theorem Kb.u (h : Kb C X W k) : X.A.units + 64 < cLine := h.hr.units
theorem Kb.u1 (h : Kb C X W k) : X.A.units + 1 < cLine := by have := h.hr.units; omega
theorem Kb.s (h : Kb C X W k) : Ks C X := ⟨h.hK, h.u⟩
theorem Ks.u1 (h : Ks C X) : X.A.units + 1 < cLine := by have := h.u; omega
theorem Kb.ss (h : Kb C X W k) {a : Addr} {pn : List (Addr × Obj)} : Ks C (X.suite a pn) := ⟨h.hK, h.u⟩
theorem Kb.blk (h : Kb C X W k) {s : Shared} {H : Hp} {scope : Scope} {cenv : Env} {fp : List Addr} : Kb C (X.blk s H scope cenv fp) W0 k := ⟨h.hK, h.calm, fun _ _ ⟨_, _, _, _, _, _, _, _, _, _, _, _, _, _, _, _, w⟩ => w.elim, h.hr, h.nd⟩
theorem Kx.tr (h : Kx C X W k) {W' : WX} {pn : List (Addr × Obj)} {xe : Value → Shared → Prop} (t : Takes (X.tr pn xe) W') (q : PassesOwn (model X.prog X.w) X.A X.env xe) : Kx C (X.tr pn xe) W' k := ⟨⟨h.hK, h.calm, t, h.hr, h.nd⟩, q, h.st, h.fr⟩
theorem Kx.of {P : Program} {w : World} {mg : Str → Option Value} {base : Heap} {N : List Str} {qual : Str} {scope : Scope} {f : Addr} {cdv : Value} {A : Around} {outer : List Env} {s : Shared} {H : Hp} {E : XK} (nd : N.Nodup) (hr : Room k (A.deeper (envOfC qual scope s.heap.objs.size f cdv))) :
    Kx C (cxOf (L2.CX P w) P w C.K mg base N qual scope f cdv A outer s H E) (fun cls d _ H => E cls d H) k :=
  ⟨⟨rfl, rfl, takes_of (X := cxOf (L2.CX P w) P w C.K mg base N qual scope f cdv A outer s H E) rfl rfl rfl rfl, hr, nd⟩, passes_of (X := cxOf (L2.CX P w) P w C.K mg base N qual scope f cdv A outer s H E) rfl, rfl, rfl⟩
/-! constants of the module -/
theorem k_gint {x : Str} {z : Int} (D : GInt X.mg x z) (hg : Gl X x := by rfl) (hb : (x == ("__debug__" : Str)) = false := by decide) : RE C X W (.Name x pos) (mC (.int z)) := let ⟨t, e⟩ := D; re_glob (v := .int z) hg e ⟨t, rfl⟩ rfl hb
theorem k_gstr {x z : Str} (D : GStr X.mg x z) (hg : Gl X x := by rfl) (hb : (x == ("__debug__" : Str)) = false := by decide) : RE C X W (.Name x pos) (mC (.str z)) := let ⟨t, e⟩ := D; re_glob (v := .str z) hg e ⟨t, rfl⟩ rfl hb
/-! comparisons -/
section
variable {a b c d : Expr} {ma mb mc md : ME} {f g q : D → D → Option D} {o1 o2 o3 : CmpOp}
abbrev OpX (X : Cx) (C : Ctx) (op : CmpOp) (f : D → D → Option D) : Prop := ∃ r, OpR X (compareOp op) r ∧ SemB C r f
theorem x_eq (h : Ks C X) : OpX X C .Eq eqD := op_eqX h.u h.hK
theorem x_ne (h : Ks C X) : OpX X C .NotEq neD := op_neX h.u h.hK
theorem x_in (h : Ks C X) : OpX X C .In (inD false) := op_inX h.u1 h.hK
theorem x_nin (h : Ks C X) : OpX X C .NotIn (inD true) := op_ninX h.u1 h.hK
theorem x_isN : OpX X C .Is isN := ⟨_, op_isN, sem_isN⟩
theorem x_ntN : OpX X C .IsNot isntN := ⟨_, op_notN, sem_isntN⟩
theorem x_lt : OpX X C .Lt ltD := ⟨_, op_lt, sem_lt⟩
theorem x_le : OpX X C .LtE leD := op_leX
theorem x_gt : OpX X C .Gt gtD := ⟨_, op_gt, sem_gt⟩
theorem x_ge : OpX X C .GtE geD := ⟨_, op_ge, sem_ge⟩
theorem k_cmp (o : OpX X C o1 f) (ha : RE C X W a ma) (hb : RE C X W b mb) (hm : behindInMarks o1 b = false := by first | exact nomark _ (by decide) (by decide) | with_unfolding_all rfl) : RE C X W (.Compare a [o1] [b] pos) (mOp f ma mb) := let ⟨_, h1, h2⟩ := o; re_cmp h1 h2 ha hb hm
theorem k_tcmp (o : OpX X C o1 f) (ha : RE C X W a ma) (hb : RE C X W b mb) (hm : behindInMarks o1 b = false := by first | exact nomark _ (by decide) (by decide) | with_unfolding_all rfl) : RT C X W (.Compare a [o1] [b] pos) (mTest (mOp f ma mb)) := let ⟨_, h1, h2⟩ := o; rt_cmp h1 h2 ha hb hm
theorem k_chain (o : OpX X C o1 f) (o' : OpX X C o2 g) (ha : RE C X W a ma) (hb : RE C X W b mb) (hc : RE C X W c mc) (hm : lastMarks [o1, o2] [b, c] = false := by with_unfolding_all rfl) : RE C X W (.Compare a [o1, o2] [b, c] pos) (mChain f g ma mb mc) := let ⟨_, h1, h2⟩ := o; let ⟨_, h3, h4⟩ := o'; re_chain h1 h3 h2 h4 ha hb hc hm
theorem k_tchain (o : OpX X C o1 f) (o' : OpX X C o2 g) (ha : RE C X W a ma) (hb : RE C X W b mb) (hc : RE C X W c mc) (hm : lastMarks [o1, o2] [b, c] = false := by with_unfolding_all rfl) : RT C X W (.Compare a [o1, o2] [b, c] pos) (mTest (mChain f g ma mb mc)) := let ⟨_, h1, h2⟩ := o; let ⟨_, h3, h4⟩ := o'; rt_chain h1 h3 h2 h4 ha hb hc hm
theorem k_chain3 (o : OpX X C o1 f) (o' : OpX X C o2 g) (o'' : OpX X C o3 q) (ha : RE C X W a ma) (hb : RE C X W b mb) (hc : RE C X W c mc) (hd : RE C X W d md) (hm : lastMarks [o1, o2, o3] [b, c, d] = false := by with_unfolding_all rfl) : RE C X W (.Compare a [o1, o2, o3] [b, c, d] pos) (mChain3 f g q ma mb mc md) :=
  let ⟨_, h1, h2⟩ := o; let ⟨_, h3, h4⟩ := o'; let ⟨_, h5, h6⟩ := o''; re_chain3 h1 h3 h5 h2 h4 h6 ha hb hc hd hm
theorem k_ix (h : Ks C X) (ha : RE C X W a ma) (hb : RE C X W b mb) (hi : PlainIx b := by intro _ _; rfl) : RE C X W (.Subscript a b pos) (mOp ixD ma mb) := let ⟨_, h1, h2⟩ := ix_X h.u1 h.hK; re_ix h1 h2 ha hb hi
end
/-! calls -/
section
variable {e o : Expr} {es : List Expr} {x nm : Str} {ma : MA} {mo : ME} {n j c : Nat} {m : PF} {dds : List D} {f : List D → Option D}
theorem k_call0 {k' : Nat} (h : Kb C X W k) (D : DefOk X.prog X.w X.mg X.base C k' n x m dds) (hk : k' ≤ k) (ha : RA C X W (e :: es) ma) (har : arity j ma) (hj : j + dds.length = n) (hg : Gl X x := by rfl) (hdb : (x == ("__debug__" : Str)) = false := by decide)
    (he : starEach (e :: es) X.env = (false, eval e X.env) :: starEach es X.env := by rfl) (hpl : (backTo pos (starEach es X.env)).any (·.1) = false := by rfl) : RE C X W (.Call (.Name x p) (e :: es) [] pos) (mCall0 m dds ma) := by
  obtain ⟨f, e1, kp, fd, ps, dvs, ds, Fn, hb, hd, hr2⟩ := D.ok
  rw [← h.hK] at kp Fn hb
  exact re_call0 (f := f) ⟨⟨fd, ps, dvs, ds, Fn, hb, hd, hr2⟩, kp⟩ (h.hr.mono hk) hg e1 h.tk ha har hj hdb he hpl
theorem k_call {k' : Nat} (h : Kb C X W k) (D : DefOk X.prog X.w X.mg X.base C k' n x m dds) (hk : k' ≤ k) (ha : RA C X W (e :: es) ma) (har : arity j ma) (hj : j + dds.length = n) (hg : Gl X x := by rfl) (hdb : (x == ("__debug__" : Str)) = false := by decide)
    (he : starEach (e :: es) X.env = (false, eval e X.env) :: starEach es X.env := by rfl) (hpl : (backTo pos (starEach es X.env)).any (·.1) = false := by rfl) : RE C X W (.Call (.Name x p) (e :: es) [] pos) (mCall m dds ma) := by
  obtain ⟨f, e1, kp, fd, ps, dvs, ds, Fn, hb, hd, hr2⟩ := D.ok
  rw [← h.hK] at kp Fn hb
  exact re_call (f := f) ⟨⟨fd, ps, dvs, ds, Fn, hb, hd, hr2⟩, kp⟩ (h.hr.mono hk) hg e1 h.tk ha har hj hdb he hpl
theorem MakeOk.maker {k' : Nat} (D : MakeOk X.prog X.w X.mg X.base C k' n c x m dds) (hK : X.K = C.K) : Maker C X k' n c m dds := by
  obtain ⟨f, fd, ps, dvs, ds, M, Fn, hb, hd, hr2⟩ := D.ok
  rw [← hK] at M Fn hb
  exact ⟨⟨f, fd, ps, dvs, ds, M, Fn, hb, hd, hr2⟩⟩
theorem k_make0 {k' : Nat} (h : Kb C X W k) (D : MakeOk X.prog X.w X.mg X.base C k' n c x m dds) (hk : k' + 1 ≤ k) (ha : RA C X W (e :: es) ma) (har : arity j ma) (hj : j + dds.length + 1 = n) (hg : Gl X x := by rfl) (hdb : (x == ("__debug__" : Str)) = false := by decide)
    (he : starEach (e :: es) X.env = (false, eval e X.env) :: starEach es X.env := by rfl) (hpl : (backTo pos (starEach es X.env)).any (·.1) = false := by rfl) : RE C X W (.Call (.Name x p) (e :: es) [] pos) (mMake0 c m dds ma) :=
  re_make0 (D.maker h.hK) (h.hr.mono hk) hg D.gl h.tk ha har hj hdb he hpl
theorem k_makeN {k' : Nat} (h : Kb C X W k) (D : MakeOk X.prog X.w X.mg X.base C k' n c x m dds) (hk : k' + 1 ≤ k) (hj : 0 + dds.length + 1 = n) (hg : Gl X x := by rfl) (hdb : (x == ("__debug__" : Str)) = false := by decide) : RE C X W (.Call (.Name x p) [] [] pos) (mMake c m dds mNil) :=
  re_makeN (D.maker h.hK) (h.hr.mono hk) hg D.gl h.tk hj hdb
theorem MethOk.meth {k' : Nat} (D : MethOk X.prog X.w X.mg X.base C k' n c nm m dds) (hK : X.K = C.K) : Method C X k' n c nm m dds := by
  obtain ⟨f, fd, ps, dvs, ds, M, M2, Fn, hb, hd, hr2⟩ := D.ok
  rw [← hK] at M M2 Fn hb
  exact ⟨⟨f, fd, ps, dvs, ds, M, M2, Fn, hb, hd, hr2⟩⟩
theorem k_ownR {k' : Nat} {pl : Sem Bool} (h : Kb C X W k) (D : MethOk X.prog X.w X.mg X.base C k' n c nm m dds) (hk : k' ≤ k) (ho : RE C X W o mo) (ha : RA C X W (e :: es) ma) (har : arity j ma) (hj : j + dds.length + 1 = n)
    (hst : starEach (e :: es) X.env = (false, eval e X.env) :: starEach es X.env := by rfl) (hpl : (backTo pos (starEach es X.env)).any (·.1) = false := by rfl)
    (ht : eval (.Call (.Attribute o nm apos) (e :: es) [] pos) X.env = (do
      let ov ← eval o X.env
      standAt apos.atName
      let (f, first) ← holding [ov] (getMethod ov nm pl)
      callWith pos f first (backTo pos (starEach (e :: es) X.env)) (backToKw pos (keywordEach [] X.env))) := by rfl) : RE C X W (.Call (.Attribute o nm apos) (e :: es) [] pos) (mOwn c nm (methR m dds) mo ma) :=
  re_ownR h.hK (D.meth h.hK) (h.hr.mono hk) h.tk ho ha har hj hst hpl ht
theorem k_ownC {k' : Nat} {pl : Sem Bool} (h : Kb C X W k) (D : MethOk X.prog X.w X.mg X.base C k' n c nm m dds) (hk : k' ≤ k) (ho : RE C X W o mo) (ha : RA C X W (e :: es) ma) (har : arity j ma) (hj : j + dds.length + 1 = n)
    (hst : starEach (e :: es) X.env = (false, eval e X.env) :: starEach es X.env := by rfl) (hpl : (backTo pos (starEach es X.env)).any (·.1) = false := by rfl)
    (ht : eval (.Call (.Attribute o nm apos) (e :: es) [] pos) X.env = (do
      let ov ← eval o X.env
      standAt apos.atName
      let (f, first) ← holding [ov] (getMethod ov nm pl)
      callWith pos f first (backTo pos (starEach (e :: es) X.env)) (backToKw pos (keywordEach [] X.env))) := by rfl) : RE C X W (.Call (.Attribute o nm apos) (e :: es) [] pos) (mOwn c nm (methC m dds) mo ma) :=
  re_ownC h.hK (D.meth h.hK) (h.hr.mono hk) h.tk ho ha har hj hst hpl ht
theorem k_ownR0 {k' : Nat} {pl : Sem Bool} (h : Kb C X W k) (D : MethOk X.prog X.w X.mg X.base C k' n c nm m dds) (hk : k' ≤ k) (ho : RE C X W o mo) (hj : 0 + dds.length + 1 = n)
    (ht : eval (.Call (.Attribute o nm apos) [] [] pos) X.env = (do
      let ov ← eval o X.env
      standAt apos.atName
      let (f, first) ← holding [ov] (getMethod ov nm pl)
      callWith pos f first (backTo pos (starEach [] X.env)) (backToKw pos (keywordEach [] X.env))) := by rfl) : RE C X W (.Call (.Attribute o nm apos) [] [] pos) (mOwn c nm (methR m dds) mo mNil) :=
  re_ownR0 h.hK (D.meth h.hK) (h.hr.mono hk) h.tk ho hj ht
theorem k_ownC0 {k' : Nat} {pl : Sem Bool} (h : Kb C X W k) (D : MethOk X.prog X.w X.mg X.base C k' n c nm m dds) (hk : k' ≤ k) (ho : RE C X W o mo) (hj : 0 + dds.length + 1 = n)
    (ht : eval (.Call (.Attribute o nm apos) [] [] pos) X.env = (do
      let ov ← eval o X.env
      standAt apos.atName
      let (f, first) ← holding [ov] (getMethod ov nm pl)
      callWith pos f first (backTo pos (starEach [] X.env)) (backToKw pos (keywordEach [] X.env))) := by rfl) : RE C X W (.Call (.Attribute o nm apos) [] [] pos) (mOwn c nm (methC m dds) mo mNil) :=
  re_ownC0 h.hK (D.meth h.hK) (h.hr.mono hk) h.tk ho hj ht
/-! built-in functions -/
theorem k_len (h : Kb C X W k) (hm : X.mg "len" = none) (ha : RA C X W [e] ma) (hg : Gl X "len" := by rfl) (he : starEach [e] X.env = (false, eval e X.env) :: starEach [] X.env := by rfl) : RE C X W (.Call (.Name "len" p) [e] [] pos) (mCB lenD ma) :=
  re_callB call_len (sem_len h.hK) hg hm (by decide +kernel) ha (by decide) (by decide) he rfl
theorem k_str (hm : X.mg "str" = none) (ha : RA C X W [e] ma) (hg : Gl X "str" := by rfl) (he : starEach [e] X.env = (false, eval e X.env) :: starEach [] X.env := by rfl) : RE C X W (.Call (.Name "str" p) [e] [] pos) (mCB strD ma) :=
  re_callTy call_strX sem_str hg hm (by decide +kernel) ha (by decide) (by decide) he rfl
theorem k_int (hm : X.mg "int" = none) (ha : RA C X W [e] ma) (hg : Gl X "int" := by rfl) (he : starEach [e] X.env = (false, eval e X.env) :: starEach [] X.env := by rfl) : RE C X W (.Call (.Name "int" p) [e] [] pos) (mCB intD ma) :=
  re_callTy call_intX sem_int hg hm (by decide +kernel) ha (by decide) (by decide) he rfl
theorem kf_list (h : Kb C X W k) (hm : X.mg "list" = none) (ha : RA C X W [e] ma) (hg : Gl X "list" := by rfl) (he : starEach [e] X.env = (false, eval e X.env) :: starEach [] X.env := by rfl) : RF C X W (.Call (.Name "list" p) [e] [] pos) (mCB listD ma) :=
  rf_callTy call_list_of (sem_list h.hK) hg hm (by decide +kernel) ha (by decide) (by decide) he rfl
theorem k_max2 (h : Kb C X W k) (hm : X.mg "max" = none) {e2 : Expr} (ha : RA C X W [e, e2] ma) (hg : Gl X "max" := by rfl) (he : starEach [e, e2] X.env = (false, eval e X.env) :: starEach [e2] X.env := by rfl) (hp : (backTo pos (starEach [e2] X.env)).any (·.1) = false := by rfl) : RE C X W (.Call (.Name "max" p) [e, e2] [] pos) (mCB max2D ma) :=
  re_callB (call_max2 h.calm) sem_max2 hg hm (by decide +kernel) ha (by decide) (by decide) he hp
theorem k_min2 (h : Kb C X W k) (hm : X.mg "min" = none) {e2 : Expr} (ha : RA C X W [e, e2] ma) (hg : Gl X "min" := by rfl) (he : starEach [e, e2] X.env = (false, eval e X.env) :: starEach [e2] X.env := by rfl) (hp : (backTo pos (starEach [e2] X.env)).any (·.1) = false := by rfl) : RE C X W (.Call (.Name "min" p) [e, e2] [] pos) (mCB min2D ma) :=
  re_callB (call_min2 h.calm) sem_min2 hg hm (by decide +kernel) ha (by decide) (by decide) he hp
theorem k_divmod (hm : X.mg "divmod" = none) {e2 : Expr} (ha : RA C X W [e, e2] ma) (hg : Gl X "divmod" := by rfl) (he : starEach [e, e2] X.env = (false, eval e X.env) :: starEach [e2] X.env := by rfl) (hp : (backTo pos (starEach [e2] X.env)).any (·.1) = false := by rfl) : RE C X W (.Call (.Name "divmod" p) [e, e2] [] pos) (mCB divmodD ma) :=
  let ⟨_, h1, h2⟩ := call_divmodX; re_callB h1 h2 hg hm (by decide +kernel) ha (by decide) (by decide) he hp
theorem k_isi {T : String} {y : Str} {me : ME} (h : Kb C X W k) (hm : X.mg "isinstance" = none) (hmT : X.mg y = none) (ha : RE C X W e me) (hvT : bootBuiltins y = some (.type T) := by decide +kernel) (hg : Gl X "isinstance" := by rfl) (hgT : Gl X y := by rfl) (hyn : y ≠ "__name__" := by decide) (hyd : (y == ("__debug__" : Str)) = false := by decide)
    (he : starEach [e, .Name y p2] X.env = (false, eval e X.env) :: starEach [.Name y p2] X.env := by rfl) (he2 : starEach [.Name y p2] X.env = (false, eval (.Name y p2) X.env) :: starEach [] X.env := by rfl) (hpl : (backTo pos (starEach [.Name y p2] X.env)).any (·.1) = false := by rfl) :
    RE C X W (.Call (.Name "isinstance" p) [e, .Name y p2] [] pos) (mIsi T me) := re_isi h.hK hg hm hgT hmT hvT hyn hyd ha (by decide +kernel) he he2 hpl
theorem k_isK {yes : List Nat} {a : Addr} {y : Str} {me : ME} (hm : X.mg "isinstance" = none) (K : KindOk C X yes a) (hmT : X.mg y = some (.ref a)) (ha : RE C X W e me) (hg : Gl X "isinstance" := by rfl) (hgT : Gl X y := by rfl) (hyd : (y == ("__debug__" : Str)) = false := by decide)
    (he : starEach [e, .Name y p2] X.env = (false, eval e X.env) :: starEach [.Name y p2] X.env := by rfl) (he2 : starEach [.Name y p2] X.env = (false, eval (.Name y p2) X.env) :: starEach [] X.env := by rfl) (hpl : (backTo pos (starEach [.Name y p2] X.env)).any (·.1) = false := by rfl) :
    RE C X W (.Call (.Name "isinstance" p) [e, .Name y p2] [] pos) (mIsK yes me) := re_isK K hg hm hgT hmT ha hyd (by decide +kernel) he he2 hpl
/-! methods of texts and lists -/
section
variable (hst : starEach [e] X.env = (false, eval e X.env) :: starEach [] X.env := by rfl)
theorem k_join (h : Kb C X W k) (ho : RE C X W o mo) (ha : RA C X W [e] ma) (hbase : attributeBase o "join" X.env (eval o X.env) = eval o X.env := by rfl) (hst : starEach [e] X.env = (false, eval e X.env) :: starEach [] X.env := by rfl) (hline : (apos.endLine == cpos.line) = true := by rfl)
    (hfew : ((backTo cpos (starEach [e] X.env)).all (fun x => !x.1) && (backToKw cpos (keywordEach [] X.env)).all (fun x => x.1.isSome) && decide (([e] : List Expr).length + ([] : List Keyword).length + (if ([] : List Keyword).isEmpty then 0 else 1) < 30)) = true := by rfl) :
    RE C X W (.Call (.Attribute o "join" apos) [e] [] cpos) (mMeth "str" joinD mo ma) := re_meth F.plainAttrs_str F.slot_str_join F.type_str_join mt_join (sem_join h.hK) ho ha hbase hfew hline hst rfl
theorem kf_split (ho : RE C X W o mo) (ha : RA C X W [e] ma) (hbase : attributeBase o "split" X.env (eval o X.env) = eval o X.env := by rfl) (hst : starEach [e] X.env = (false, eval e X.env) :: starEach [] X.env := by rfl) (hline : (apos.endLine == cpos.line) = true := by rfl)
    (hfew : ((backTo cpos (starEach [e] X.env)).all (fun x => !x.1) && (backToKw cpos (keywordEach [] X.env)).all (fun x => x.1.isSome) && decide (([e] : List Expr).length + ([] : List Keyword).length + (if ([] : List Keyword).isEmpty then 0 else 1) < 30)) = true := by rfl) :
    RF C X W (.Call (.Attribute o "split" apos) [e] [] cpos) (mMeth "str" splitD mo ma) := rf_meth F.plainAttrs_str F.slot_str_split F.type_str_split mt_split sem_split ho ha hbase hfew hline hst rfl
theorem k_part (ho : RE C X W o mo) (ha : RA C X W [e] ma) (hbase : attributeBase o "partition" X.env (eval o X.env) = eval o X.env := by rfl) (hst : starEach [e] X.env = (false, eval e X.env) :: starEach [] X.env := by rfl) (hline : (apos.endLine == cpos.line) = true := by rfl)
    (hfew : ((backTo cpos (starEach [e] X.env)).all (fun x => !x.1) && (backToKw cpos (keywordEach [] X.env)).all (fun x => x.1.isSome) && decide (([e] : List Expr).length + ([] : List Keyword).length + (if ([] : List Keyword).isEmpty then 0 else 1) < 30)) = true := by rfl) :
    RE C X W (.Call (.Attribute o "partition" apos) [e] [] cpos) (mMeth "str" partD mo ma) := re_meth F.plainAttrs_str F.slot_str_partition F.type_str_partition mt_partition sem_part ho ha hbase hfew hline hst rfl
theorem k_starts (ho : RE C X W o mo) (ha : RA C X W [e] ma) (hbase : attributeBase o "startswith" X.env (eval o X.env) = eval o X.env := by rfl) (hst : starEach [e] X.env = (false, eval e X.env) :: starEach [] X.env := by rfl) (hline : (apos.endLine == cpos.line) = true := by rfl)
    (hfew : ((backTo cpos (starEach [e] X.env)).all (fun x => !x.1) && (backToKw cpos (keywordEach [] X.env)).all (fun x => x.1.isSome) && decide (([e] : List Expr).length + ([] : List Keyword).length + (if ([] : List Keyword).isEmpty then 0 else 1) < 30)) = true := by rfl) :
    RE C X W (.Call (.Attribute o "startswith" apos) [e] [] cpos) (mMeth "str" startsD mo ma) := re_meth F.plainAttrs_str F.slot_str_startswith F.type_str_startswith mt_startswith sem_starts ho ha hbase hfew hline hst rfl
theorem k_append (ho : RE C X W o mo) (ha : RA C X W [e] ma) (hbase : attributeBase o "append" X.env (eval o X.env) = eval o X.env := by rfl) (hst : starEach [e] X.env = (false, eval e X.env) :: starEach [] X.env := by rfl) (hline : (apos.endLine == cpos.line) = true := by rfl)
    (hfew : ((backTo cpos (starEach [e] X.env)).all (fun x => !x.1) && (backToKw cpos (keywordEach [] X.env)).all (fun x => x.1.isSome) && decide (([e] : List Expr).length + ([] : List Keyword).length + (if ([] : List Keyword).isEmpty then 0 else 1) < 30)) = true := by rfl) :
    RE C X W (.Call (.Attribute o "append" apos) [e] [] cpos) (mMut "list" appendU mo ma) := re_mut PySem.F.plainAttrs_list F.slot_list_append F.type_list_append mt_append sem_append ho ha hbase hfew hline hst rfl
theorem k_extend (ho : RE C X W o mo) (ha : RA C X W [e] ma) (hbase : attributeBase o "extend" X.env (eval o X.env) = eval o X.env := by rfl) (hst : starEach [e] X.env = (false, eval e X.env) :: starEach [] X.env := by rfl) (hline : (apos.endLine == cpos.line) = true := by rfl)
    (hfew : ((backTo cpos (starEach [e] X.env)).all (fun x => !x.1) && (backToKw cpos (keywordEach [] X.env)).all (fun x => x.1.isSome) && decide (([e] : List Expr).length + ([] : List Keyword).length + (if ([] : List Keyword).isEmpty then 0 else 1) < 30)) = true := by rfl) :
    RE C X W (.Call (.Attribute o "extend" apos) [e] [] cpos) (mMut "list" extendU mo ma) := re_mut PySem.F.plainAttrs_list F.slot_list_extend F.type_list_extend mt_extend sem_extend ho ha hbase hfew hline hst rfl
theorem k_insert {e2 : Expr} (ho : RE C X W o mo) (ha : RA C X W [e, e2] ma) (hbase : attributeBase o "insert" X.env (eval o X.env) = eval o X.env := by rfl) (hst : starEach [e, e2] X.env = (false, eval e X.env) :: starEach [e2] X.env := by rfl) (hline : (apos.endLine == cpos.line) = true := by rfl)
    (hfew : ((backTo cpos (starEach [e, e2] X.env)).all (fun x => !x.1) && (backToKw cpos (keywordEach [] X.env)).all (fun x => x.1.isSome) && decide (([e, e2] : List Expr).length + ([] : List Keyword).length + (if ([] : List Keyword).isEmpty then 0 else 1) < 30)) = true := by rfl) (hpl : (backTo cpos (starEach [e2] X.env)).any (·.1) = false := by rfl) :
    RE C X W (.Call (.Attribute o "insert" apos) [e, e2] [] cpos) (mMut "list" insertU mo ma) := re_mut PySem.F.plainAttrs_list F.slot_list_insert F.type_list_insert mt_insert sem_insert ho ha hbase hfew hline hst hpl
theorem k_pop (ho : RE C X W o mo) (hbase : attributeBase o "pop" X.env (eval o X.env) = eval o X.env := by rfl) (hline : (apos.endLine == cpos.line) = true := by rfl) :
    RE C X W (.Call (.Attribute o "pop" apos) [] [] cpos) (mMut "list" popU mo mNil) := re_mut0 PySem.F.plainAttrs_list F.slot_list_pop F.type_list_pop mt_pop sem_pop ho hbase hline
end
end
/-! statements -/
theorem k_set {j : Nat} {x : Str} {e : Expr} {m : ME} (nd : X.N.Nodup) (he : RE C X W e m) (hi : X.N[j]? = some x := by rfl) (hx : Loc X.env.scope x := by first | exact Or.inl rfl | exact Or.inr rfl) (hs : swapsWith e (some (.Name x p)) pos.line X.env = pure false := by rfl)
    (hf : X.fn x = true ∨ X.env.scope.names.lookup x = some .local := by first | exact .inl rfl | exact .inr rfl) : RS C X W i (.Assign [.Name x p] e pos) (mSet j m) := rs_set nd hi hx he hs hf
theorem k_setOw {j : Nat} {x : Str} {e : Expr} {m : ME} (nd : X.N.Nodup) (he : RF C X W e m) (hi : X.N[j]? = some x := by rfl) (hx : Loc X.env.scope x := by first | exact Or.inl rfl | exact Or.inr rfl) (hs : swapsWith e (some (.Name x p)) pos.line X.env = pure false := by rfl)
    (hf : X.fn x = true ∨ X.env.scope.names.lookup x = some .local := by first | exact .inl rfl | exact .inr rfl) : RS C X W i (.Assign [.Name x p] e pos) (mSetOw j m) := rs_setOw nd hi hx he hs hf
theorem k_gname {j : Nat} {x : Str} (h : X.N.Nodup) (hi : X.N[j]? = some x := by rfl) (hx : Loc X.env.scope x := by first | exact Or.inl rfl | exact Or.inr rfl) (hf : X.fn x = true ∨ X.env.scope.names.lookup x = some .local := by first | exact .inl rfl | exact .inr rfl) : RG C X (.Name x pos) [j] (gNm j) := rg_name h hi hx hf
theorem k_addA {j : Nat} {x : Str} {e : Expr} {m : ME} (nd : X.N.Nodup) (he : RE C X W e m) (hi : X.N[j]? = some x := by rfl) (hx : Loc X.env.scope x := by first | exact Or.inl rfl | exact Or.inr rfl) (hf : X.fn x = true ∨ X.env.scope.names.lookup x = some .local := by first | exact .inl rfl | exact .inr rfl) :
    RS C X W i (.AugAssign (.Name x p) .Add e pos) (mAug (fun a b => a + b) j m) := rs_aug nd hi hx ip_add he hf
theorem k_subA {j : Nat} {x : Str} {e : Expr} {m : ME} (nd : X.N.Nodup) (he : RE C X W e m) (hi : X.N[j]? = some x := by rfl) (hx : Loc X.env.scope x := by first | exact Or.inl rfl | exact Or.inr rfl) (hf : X.fn x = true ∨ X.env.scope.names.lookup x = some .local := by first | exact .inl rfl | exact .inr rfl) :
    RS C X W i (.AugAssign (.Name x p) .Sub e pos) (mAug (fun a b => a - b) j m) := rs_aug nd hi hx ip_sub he hf
end
end ML
end
section
set_option Elab.async false
set_option linter.all false
set_option maxRecDepth 100000
set_option autoImplicit false
/-! ML18: what the head tells of a text: defs, facts, and one Bool more. -/
namespace ML
open PySem PySem.Spec PyProof.Rows L2
def bodyC : Stmt → List Stmt
  | .ClassDef _ _ _ b _ _ _ _ _ _ _ => b
  | _ => []
abbrev AlX : Type := Bool × He.AlD
def obsX (fx : PySem.W.Frag → Bool) (fa : List He.Fa) (fn : List He.DefD) (K : PySem.W.Frag) : AlX := (fx K, He.obsD fa fn K)
def valX (fn : List He.DefD) : AlX := (true, He.valD fn)
def SaysX (fx : PySem.W.Frag → Bool) (fa : List He.Fa) (fn : List He.DefD) (K : PySem.W.Frag) : Prop := obsX fx fa fn K = valX fn
/-- what the module's names reach, each once: globals, class dicts, methods, code, defaults -/
def refsX (o : Obj) : List Addr := match o.data with
  | .seq its _ => its.toList.flatMap He.refV
  | .dict es _ => es.toList.flatMap fun e => He.refV e.val
  | .func fd => He.refV fd.code ++ He.refV fd.defaults
  | .cls cd => [cd.ns]
  | _ => []
def stepX (g : Addr → Option Obj) (as : List Addr) : List Addr := as.flatMap fun a => match g a with
  | some o => (refsX o).filter fun b => !(Nat.beq b mainGlobals)
  | none => []
def growX (g : Addr → Option Obj) : Nat → List Addr → List Addr
  | 0, as => as
  | n + 1, as => as ++ growX g n (stepX g as)
def asX (g : Addr → Option Obj) (n : Nat) : List Addr := growX g n [mainGlobals]
def obsXG (n : Nat) (fx : PySem.W.Frag → Bool) (fa : List He.Fa) (fn : List He.DefD) (g : Addr → Option Obj) : AlX := obsX fx fa fn (He.frG g (asX g n))
def hookX (n : Nat) (fx : PySem.W.Frag → Bool) (fa : List He.Fa) (fn : List He.DefD) : PySem.W.Hook where
  α := AlX
  obs := fun s => obsXG n fx fa fn s.heap.get?
  val := fun _ => valX fn
  says := fun _ h => ∃ K : PySem.W.Frag, K.In h ∧ SaysX fx fa fn K
  of := fun _ _ e => ⟨_, He.frG_in, e⟩
  keeps := fun _ _ _ ⟨K, hK, c⟩ k => ⟨K, PySem.W.Frag.In.keeps hK k, c⟩
theorem obsXG_eq {n : Nat} {fx : PySem.W.Frag → Bool} {fa : List He.Fa} {fn : List He.DefD} {g : Addr → Option Obj} {s : Shared} (h : ∀ a, g a = s.heap.get? a) : obsXG n fx fa fn g = (hookX n fx fa fn).obs s := by
  have e : g = s.heap.get? := funext h
  rw [e] <;> rfl
theorem SaysX.d {fx : PySem.W.Frag → Bool} {fa : List He.Fa} {fn : List He.DefD} {K : PySem.W.Frag} (c : SaysX fx fa fn K) : He.SaysD fa fn K := congrArg (fun z : AlX => z.2) c
theorem SaysX.x {fx : PySem.W.Frag → Bool} {fa : List He.Fa} {fn : List He.DefD} {K : PySem.W.Frag} (c : SaysX fx fa fn K) : fx K = true := congrArg (fun z : AlX => z.1) c
/-- isinstance of own classes -/
def kindB (K : PySem.W.Frag) (c k : Addr) : Bool :=
  decide (PySem.W.findIn K (.ref c) "__class__" = some (some (.builtin "object.__class__"))) && (decide (PySem.W.specialIn K (.builtin "object.__class__") "__get__" = some (some (.builtin "getset_descriptor.__get__"))) &&
    (decide (PySem.W.takesIn K (.builtin "object.__class__") = some true) && (decide (PySem.W.mroIn K c (.type "object") = some true) && decide (PySem.W.kitOne K (.ref c) (.ref k) = some true))))
theorem kindB_ok {K : PySem.W.Frag} {c k : Addr} (cl : Cls K c) (h : kindB K c k = true) : (∀ (H : Hp) (a dx : Addr) (fs : List (Str × V)), H a = some (.ins c dx fs) → TyX K H (.ref a) (.ref c)) ∧ PySem.W.kitOne K (.ref c) (.ref k) = some true := by
  unfold kindB at h
  simp only [Bool.and_eq_true, decide_eq_true_eq] at h
  obtain ⟨h1, h2, h3, h4, h5⟩ := h
  exact ⟨fun H a dx fs e => .base (.ins e cl h1 h2 h3 h4), h5⟩
/-- isinstance of a caught one -/
def excB (K : PySem.W.Frag) (c : Addr) (T : String) : Bool :=
  decide (PySem.W.findIn K (.ref c) "__getattribute__" = some (some (.builtin "BaseException.__getattribute__"))) && (decide (PySem.W.findIn K (.ref c) "__getattr__" = some none) && (decide (PySem.W.subIn K (.ref c) (.type "BaseException") = some true) && (PySem.W.hasDictIn K c &&
    (decide (PySem.W.findIn K (.ref c) "__class__" = some (some (.builtin "object.__class__"))) && (decide (PySem.W.specialIn K (.builtin "object.__class__") "__get__" = some (some (.builtin "getset_descriptor.__get__"))) &&
    (decide (PySem.W.takesIn K (.builtin "object.__class__") = some true) && (decide (PySem.W.mroIn K c (.type "object") = some true) && decide (PySem.W.kitOne K (.ref c) (.type T) = some true))))))))
theorem excB_ok {K : PySem.W.Frag} {c : Addr} {T : String} (h : excB K c T = true) : ExcC K c ∧ PySem.W.kitOne K (.ref c) (.type T) = some true := by
  unfold excB at h
  simp only [Bool.and_eq_true, decide_eq_true_eq] at h
  obtain ⟨h1, h2, h3, h4, h5, h6, h7, h8, h9⟩ := h
  exact ⟨⟨h1, h2, h3, h4, h5, h6, h7, h8⟩, h9⟩
end ML
end
section
set_option Elab.async false
set_option linter.all false
set_option maxRecDepth 100000
set_option autoImplicit false
/-! ML19: m-terms worked out: the tactic simp [runF, mSeq, mIf, mRet, mSkip, mVar, mC, mOp, mIsi, mNotV, mAndV, mOrV, mTest, mOr, mAnd, mNot, mCall0, lend_clean, back0, resD_clean, clean_non, clean_bl, clean_int, clean_str, clean_lst, clean_tup, clean_dct, clean_obj, cleanL_nil, cleanL_cons, mCons, mNil, ML.R.bind, ML.R.thenS, setS, lift2, cont_clean, cont_cell, cont_scr, cont_exn, contL, mCB, isSlot_clean, isSlot_cell, isSlot_exn, isSlot_slot, mAsg, gTp, gLs, gsCons, gsNil, gNm, mAug, tyD, kb_ii, kb_ib, kb_bi, kb_bb, kb_si, kb_ss, kb_tt, kb_ll, kb_tl, kb_sl, kb_dl, kb_il, kb_bl, mChain, mChain3, mSet, mSetOw, mRetN, mRaise, mDisp, noSlots, mDrop, mIter, mMeth, ofTy, mFor, forL, mPutF, mFld, putP, lookN, putN, flatB, flatD, max2D, min2D, mPart, mNoPart, mSl, orF, orC, gtD, ltD, leD, leI, geD, subI, addD_ii, modI, isN, isntN, mIfE, mNeg, mBreak, mCont, orE, boxed, ofStr_eq, mMake0, madeR, mOwn, methR, methC, backC, mCell, mSetKey, mSetIx, setL, mAugIx, mCall, mMake, madeC, mLc, mYes, wipeS, backS, backE, mMaxDf, intsD, mIsK, mFrz, frzS, size_le, size_lt, cleanL_append, mMut, appendU, cont_slotE, List.any, List.all], loops by what each turn does. -/
namespace ML
open PySem PySem.Spec PyProof.Rows L2
theorem kb_ii : L2.kitB "int" "int" = some true := by kernel_rfl
theorem kb_ib : L2.kitB "int" "bool" = some false := by kernel_rfl
theorem kb_bi : L2.kitB "bool" "int" = some true := by kernel_rfl
theorem kb_bb : L2.kitB "bool" "bool" = some true := by kernel_rfl
theorem kb_si : L2.kitB "str" "int" = some false := by kernel_rfl
theorem kb_ss : L2.kitB "str" "str" = some true := by kernel_rfl
theorem kb_tt : L2.kitB "tuple" "tuple" = some true := by kernel_rfl
theorem kb_ll : L2.kitB "list" "list" = some true := by kernel_rfl
theorem kb_tl : L2.kitB "tuple" "list" = some false := by kernel_rfl
theorem kb_sl : L2.kitB "str" "list" = some false := by kernel_rfl
theorem kb_dl : L2.kitB "dict" "list" = some false := by kernel_rfl
theorem kb_il : L2.kitB "int" "list" = some false := by kernel_rfl
theorem kb_bl : L2.kitB "bool" "list" = some false := by kernel_rfl
theorem map_toNat_inj : ∀ {a b : List Char}, a.map Char.toNat = b.map Char.toNat → a = b
  | [], [], _ => rfl
  | [], _ :: _, h => by cases h
  | _ :: _, [], h => by cases h
  | x :: a, y :: b, h => by
    simp only [List.map_cons, List.cons.injEq] at h
    rw [map_toNat_inj h.2, show x = y from Char.ext (UInt32.toNat.inj h.1)]
theorem ofStr_eq (a b : String) : (Str.ofString a = Str.ofString b) ↔ a = b := by
  refine ⟨fun h => ?_, fun h => by rw [h]⟩
  rw [Str.ofString_eq_toList, Str.ofString_eq_toList] at h
  have h2 : a.toList.map Char.toNat = b.toList.map Char.toNat := by simpa using h
  exact String.toList_inj.mp (map_toNat_inj h2)
theorem clean_non : clean .non = true := Eq.trans rfl rfl
theorem clean_bl {b : Bool} : clean (.bl b) = true := Eq.trans rfl rfl
theorem clean_int {i : Int} : clean (.int i) = true := Eq.trans rfl rfl
theorem clean_str {x : Str} : clean (.str x) = true := Eq.trans rfl rfl
theorem clean_lst {ds : List D} : clean (.lst ds) = cleanL ds := by simp [clean]
theorem clean_tup {ds : List D} : clean (.tup ds) = cleanL ds := by simp [clean]
theorem clean_dct {ks : List Key} {ds : List D} : clean (.dct ks ds) = cleanL ds := by simp [clean]
theorem clean_obj {c : Nat} {ks : List Str} {ds : List D} : clean (.obj c ks ds) = cleanL ds := by simp [clean]
theorem cleanL_nil : cleanL [] = true := Eq.trans rfl rfl
theorem cleanL_cons {d : D} {ds : List D} : cleanL (d :: ds) = (clean d && cleanL ds) := by simp [cleanL]
theorem cleanL_append : ∀ (a b : List D), cleanL (a ++ b) = (cleanL a && cleanL b)
  | [], b => by simp [cleanL]
  | d :: a, b => by rw [List.cons_append, cleanL_cons, cleanL_cons, cleanL_append a b, Bool.and_assoc]
theorem lend_clean {s : S} : ∀ {ds : List D}, cleanL ds = true → lend s ds = some (ds, false)
  | [], _ => rfl
  | d :: ds, h => by
    simp only [cleanL, Bool.and_eq_true] at h
    have ih := lend_clean (s := s) h.2
    have hc := h.1
    cases d <;> first | (simp [clean] at hc; done) | simp [lend, ih, hc]
theorem cont_clean {s : S} {d : D} (h : clean d = true) : cont s d = some d := by
  cases d <;> first | rfl | (simp [clean] at h; done)
theorem cont_cell {s : S} {n : Nat} : cont s (.cell n) = s.cs[n]? := Eq.trans rfl rfl
theorem cont_slot {s : S} {i : Nat} {d : D} (h : s.env[i]? = some (.ow d)) : cont s (.slot i) = some d := by
  unfold cont
  simp only [h]
theorem cont_slotE {s : S} {i : Nat} : cont s (.slot i) = (match s.env[i]? with
  | some (.ow d) => some d
  | _ => none) := Eq.trans rfl rfl
theorem cont_scr {s : S} {ns : List Int} : cont s (.scr ns) = some (.scr ns) := Eq.trans rfl rfl
theorem cont_exn {s : S} {a : Addr} {dd : Option Addr} {c : Nat} {ns : List Str} {ds : List D} : cont s (.exn a dd c ns ds) = some (.exn a dd c ns ds) := Eq.trans rfl rfl
theorem resD_clean {cs : List D} {d : D} (h : clean d = true) : resD cs d = some d := by
  cases d <;> first | (simp [resD, h]; done) | (simp [clean] at h; done)
theorem resD_cell {cs : List D} {n : Nat} {c : D} (h : cs[n]? = some c) (hc : clean c = true) : resD cs (.cell n) = some c := by
  simp [resD, h, hc]
theorem isSlot_clean {d : D} (h : clean d = true) : isSlot d = false := by
  cases d <;> first | rfl | (simp [clean] at h; done)
theorem isSlot_cell {n : Nat} : isSlot (.cell n) = false := Eq.trans rfl rfl
theorem isSlot_exn {a : Addr} {dd : Option Addr} {c : Nat} {ns : List Str} {ds : List D} : isSlot (.exn a dd c ns ds) = false := Eq.trans rfl rfl
theorem isSlot_slot {n : Nat} : isSlot (.slot n) = true := Eq.trans rfl rfl
theorem size_le {n : Nat} (h : n ≤ 1000000) : n ≤ PySem.sizeLine := Nat.le_trans h (by decide)
theorem size_lt {n : Nat} (h : n < 1000000) : n < PySem.sizeLine := Nat.lt_of_lt_of_le h (by decide)
theorem addD_ss {a b : Str} (h : a.length + b.length ≤ PySem.sizeLine) : addD (.str a) (.str b) = some (.str (a ++ b)) := by
  show (match addS (.str a) (.str b) with | some d => some d | none => addL (.str a) (.str b)) = _
  simp only [addS]
  rw [if_pos h]
theorem addD_ii (a b : Int) : addD (.int a) (.int b) = some (.int (a + b)) := rfl
theorem addD_ll {a b : List D} (h : a.length + b.length ≤ PySem.sizeLine) : addD (.lst a) (.lst b) = some (.lst (a ++ b)) := by
  show addL (.lst a) (.lst b) = _
  simp only [addL]
  rw [if_pos h]
theorem slL_mid (ds : List D) (j k : Nat) (h : k ≤ ds.length) : slL (.lst ds) (some (j : Int)) (some (k : Int)) = some (.lst ((ds.drop j).take (k - j))) := by
  show some (D.lst ((ds.drop (HT.sIx ds.length 0 (some (j : Int)))).take (HT.sIx ds.length ds.length (some (k : Int)) - HT.sIx ds.length 0 (some (j : Int))))) = _
  rw [HT.sIx_nat, HT.sIx_nat, Nat.min_eq_left h]
  congr 2
  by_cases hj : j ≤ ds.length
  · rw [Nat.min_eq_left hj]
  · rw [Nat.min_eq_right (by omega), List.drop_eq_nil_of_le (Nat.le_refl _), List.drop_eq_nil_of_le (by omega)]
    simp
theorem forL_nil {g : D → S → Option S} {b : MS} {s : S} : forL g b [] s = .nx s := rfl
/-- a loop whose turns all go on -/
theorem forL_all {α : Type} {g : D → S → Option S} {b : MS} (f : α → D) (st : List α → S) : ∀ (xs done : List α), (∀ (x : α) (l r : List α), done ++ xs = l ++ x :: r → ∃ s1, g (f x) (st l) = some s1 ∧ (b s1 = .nx (st (l ++ [x])) ∨ b s1 = .ct (st (l ++ [x])))) →
    forL g b (xs.map f) (st done) = .nx (st (done ++ xs))
  | [], done, _ => by simp [forL]
  | x :: xs, done, h => by
    obtain ⟨s1, e1, e2⟩ := h x done xs rfl
    have ih := forL_all f st xs (done ++ [x]) fun y l r e => h y l r (by rw [← e]; simp)
    simp only [List.map_cons, forL, e1]
    rcases e2 with e2 | e2 <;> rw [e2] <;> simp only [] <;> rw [ih] <;> simp
/-- a loop that a turn leaves -/
theorem forL_ret {α : Type} {g : D → S → Option S} {b : MS} (f : α → D) (st : List α → S) (x : α) (r : List α) {d : D} {s2 : S} : ∀ (xs done : List α), (∀ (y : α) (l q : List α), done ++ xs = l ++ y :: q → ∃ s1, g (f y) (st l) = some s1 ∧ (b s1 = .nx (st (l ++ [y])) ∨ b s1 = .ct (st (l ++ [y])))) →
    (∃ s1, g (f x) (st (done ++ xs)) = some s1 ∧ b s1 = .rt d s2) → forL g b ((xs ++ x :: r).map f) (st done) = .rt d s2
  | [], done, _, h => by
    obtain ⟨s1, e1, e2⟩ := h
    rw [List.append_nil] at e1
    simp only [List.nil_append, List.map_cons, forL, e1, e2]
  | y :: xs, done, h, hx => by
    obtain ⟨s1, e1, e2⟩ := h y done xs rfl
    have ih := forL_ret f st x r xs (done ++ [y]) (fun z l q e => h z l q (by rw [← e]; simp)) (by simpa using hx)
    simp only [List.cons_append, List.map_cons, forL, e1]
    rcases e2 with e2 | e2 <;> rw [e2] <;> simp only [] <;> exact ih
/-- a loop by an invariant; p: the turns that go on; Out: what the first other one leaves -/
theorem forL_inv {α : Type} {g : D → S → Option S} {b : MS} (f : α → D) (p : α → Bool) (I : List α → S → Prop) (Out : Fl → Prop) (ho : ∀ s, ¬ Out (.nx s) ∧ ¬ Out (.ct s) ∧ ¬ Out (.bk s)) : ∀ (xs done : List α) (s : S), I done s →
    (∀ (x : α) (l r : List α) (s : S), done ++ xs = l ++ x :: r → I l s → ∃ s1, g (f x) s = some s1 ∧ (p x = true → ∃ s2, (b s1 = .nx s2 ∨ b s1 = .ct s2) ∧ I (l ++ [x]) s2) ∧ (p x = false → Out (b s1))) →
    (xs.all p = true → ∃ s2, forL g b (xs.map f) s = .nx s2 ∧ I (done ++ xs) s2) ∧ (xs.all p = false → Out (forL g b (xs.map f) s))
  | [], done, s, hi, _ => ⟨fun _ => ⟨s, rfl, by simpa using hi⟩, fun h => by cases h⟩
  | x :: xs, done, s, hi, h => by
    obtain ⟨s1, e1, e2, e3⟩ := h x done xs s rfl hi
    cases hp : p x with
    | true =>
      obtain ⟨s2, k1, k2⟩ := e2 hp
      have ih := forL_inv f p I Out ho xs (done ++ [x]) s2 k2 fun y l r s e => h y l r s (by rw [← e]; simp)
      have e : forL g b ((x :: xs).map f) s = forL g b (xs.map f) s2 := by
        rcases k1 with k1 | k1 <;> simp only [List.map_cons, forL, e1, k1]
      rw [e, List.all_cons, hp, Bool.true_and]
      simpa using ih
    | false =>
      have k := e3 hp
      rw [List.all_cons, hp, Bool.false_and]
      refine ⟨fun z => (by cases z), fun _ => ?_⟩
      have e : forL g b ((x :: xs).map f) s = b s1 := by
        obtain ⟨h1, h2, h3⟩ := ho s
        simp only [List.map_cons, forL, e1]
        cases q : b s1 with
        | nx s => rw [q] at k; exact absurd k (ho s).1
        | ct s => rw [q] at k; exact absurd k (ho s).2.1
        | bk s => rw [q] at k; exact absurd k (ho s).2.2
        | rt d s => rfl
        | exc x s => rfl
        | err => rfl
      rw [e]
      exact k
/-- a loop by an invariant, all turns go on -/
theorem forL_inv1 {α : Type} {g : D → S → Option S} {b : MS} (f : α → D) (I : List α → S → Prop) (xs : List α) (s : S) (hi : I [] s)
    (h : ∀ (x : α) (l r : List α) (s : S), xs = l ++ x :: r → I l s → ∃ s1, g (f x) s = some s1 ∧ ∃ s2, (b s1 = .nx s2 ∨ b s1 = .ct s2) ∧ I (l ++ [x]) s2) : ∃ s2, forL g b (xs.map f) s = .nx s2 ∧ I xs s2 := by
  have := (forL_inv f (fun _ => true) I (fun _ => False) (fun _ => ⟨fun z => z, fun z => z, fun z => z⟩) xs [] s hi fun x l r s e hi => by
    obtain ⟨s1, e1, s2, e2⟩ := h x l r s (by simpa using e) hi
    exact ⟨s1, e1, fun _ => ⟨s2, e2⟩, fun z => absurd z (by simp)⟩).1 (by simp)
  simpa using this
theorem rangeD_map (n : Nat) : rangeD 0 n = (List.range n).map fun k => D.int (k : Nat) := by
  unfold rangeD
  simp
theorem range_split {n : Nat} {l r : List Nat} {x : Nat} (h : List.range n = l ++ x :: r) : x = l.length ∧ x < n ∧ l = List.range x := by
  have e1 : (List.range n)[l.length]? = some x := by rw [h]; simp
  have hl : l.length < n := by
    have := congrArg List.length h
    simp at this
    omega
  rw [List.getElem?_range hl] at e1
  have e2 : l.length = x := Option.some.inj e1
  refine ⟨e2.symm, e2 ▸ hl, ?_⟩
  have e3 : l = (List.range n).take l.length := by rw [h]; simp
  rw [e3, List.take_range, e2, Nat.min_eq_left (by omega)]
theorem ok62_of {j : Int} (h : -1000000000 ≤ j) (h' : j ≤ 1000000000) : ok62 j := by
  have e : (2 : Int) ^ 62 = 4611686018427387904 := by decide
  unfold ok62
  rw [e]
  omega
theorem ok62_nat {n : Nat} (h : n ≤ 1000000000) : ok62 (n : Int) := ok62_of (by omega) (by omega)
theorem ok63_of {j : Int} (h : 0 ≤ j) (h' : j ≤ 1000000000) : ok63 j := by
  have e : (2 : Int) ^ 63 = 9223372036854775808 := by decide
  unfold ok63
  rw [e]
  omega
theorem sizeLine_ge : 1000000 ≤ PySem.sizeLine := by decide
theorem putKs_new : ∀ {ks : List Key} {ds : List D} {k : Key} {e : D}, k ∉ ks → ks.length = ds.length → putKs ks ds k e = (ks ++ [k], ds ++ [e])
  | [], [], _, _, _, _ => by simp [putKs]
  | [], _ :: _, _, _, _, h => by cases h
  | _ :: _, [], _, _, _, h => by cases h
  | j :: ks, d :: ds, k, e, hn, hl => by
    simp only [List.mem_cons, not_or] at hn
    have ih := putKs_new (ks := ks) (ds := ds) (k := k) (e := e) hn.2 (by simpa using hl)
    have hne : j ≠ k := fun z => hn.1 (Eq.symm z)
    simp [putKs, hne, ih]
theorem lookK_none : ∀ {ks : List Key} {ds : List D} {k : Key}, k ∉ ks → lookK ks ds k = none
  | [], ds, _, _ => by cases ds <;> rfl
  | _ :: _, [], _, _ => rfl
  | j :: ks, d :: ds, k, hn => by
    simp only [List.mem_cons, not_or] at hn
    have ih := lookK_none (ks := ks) (ds := ds) (k := k) hn.2
    have hne : j ≠ k := fun z => hn.1 (Eq.symm z)
    simp [lookK, hne, ih]
/-- a comprehension whose items all are taken -/
theorem lcL_all {α : Type} {g : D → S → Option S} {mt : MT} {me : ME} {vs : List Nat} (f h : α → D) (s : S) : ∀ (xs : List α) (acc : List D), acc.length + xs.length ≤ PySem.sizeLine →
    (∀ x ∈ xs, ∃ s2 s3 s4, g (f x) s = some s2 ∧ mt s2 = .ok true s3 ∧ me s3 = .ok (h x) s4 ∧ isSlot (h x) = false ∧ wipeS vs s4 = s) → lcL g mt me vs (xs.map f) acc s = .ok (acc ++ xs.map h) s
  | [], acc, _, _ => by simp [lcL]
  | x :: xs, acc, hl, k => by
    obtain ⟨s2, s3, s4, e1, e2, e3, e4, e5⟩ := k x List.mem_cons_self
    simp only [List.length_cons] at hl
    have ih := lcL_all (g := g) (mt := mt) (me := me) (vs := vs) f h s xs (acc ++ [h x]) (by simp; omega) fun y hy => k y (List.mem_cons_of_mem _ hy)
    simp only [List.map_cons, lcL, e1, e2, e3]
    rw [if_pos ⟨e4, by omega⟩, e5, ih]
    simp
/-- .. with a test -/
theorem lcL_if {α : Type} {g : D → S → Option S} {mt : MT} {me : ME} {vs : List Nat} (f h : α → D) (p : α → Bool) (s : S) : ∀ (xs : List α) (acc : List D), acc.length + xs.length ≤ PySem.sizeLine →
    (∀ x ∈ xs, ∃ s2 s3 s4, g (f x) s = some s2 ∧ mt s2 = .ok (p x) s3 ∧ wipeS vs s3 = s ∧ (p x = true → me s3 = .ok (h x) s4 ∧ isSlot (h x) = false ∧ wipeS vs s4 = s)) → lcL g mt me vs (xs.map f) acc s = .ok (acc ++ (xs.filter p).map h) s
  | [], acc, _, _ => by simp [lcL]
  | x :: xs, acc, hl, k => by
    obtain ⟨s2, s3, s4, e1, e2, e3, e4⟩ := k x List.mem_cons_self
    simp only [List.length_cons] at hl
    cases hp : p x with
    | true =>
      obtain ⟨k1, k2, k3⟩ := e4 hp
      have ih := lcL_if (g := g) (mt := mt) (me := me) (vs := vs) f h p s xs (acc ++ [h x]) (by simp; omega) fun y hy => k y (List.mem_cons_of_mem _ hy)
      rw [hp] at e2
      simp only [List.map_cons, lcL, e1, e2, k1]
      rw [if_pos ⟨k2, by omega⟩, k3, ih]
      simp [hp]
    | false =>
      have ih := lcL_if (g := g) (mt := mt) (me := me) (vs := vs) f h p s xs acc (by omega) fun y hy => k y (List.mem_cons_of_mem _ hy)
      rw [hp] at e2
      simp only [List.map_cons, lcL, e1, e2]
      rw [e3, ih]
      simp [hp]
theorem inD_dct {x : Str} {ks : List Key} {ds : List D} (h : (Sum.inr x : Key) ∉ ks) : inD false (.str x) (.dct ks ds) = some (.bl false) := by
  show (match lookK ks ds (Sum.inr x) with | o => some (D.bl (if false = true then !o.isSome else o.isSome))) = _
  rw [lookK_none h]
  rfl
theorem setD_new {x : Str} {ks : List Key} {ds : List D} {e : D} (h : (Sum.inr x : Key) ∉ ks) (hl : ks.length = ds.length) (hn : ks.Nodup) (hz : ks.length < 1000) : setD (.dct ks ds) (.str x) e = some (.dct (ks ++ [Sum.inr x]) (ds ++ [e])) := by
  unfold setD keyD
  simp only []
  have := sizeLine_ge
  rw [if_pos ⟨hn, by omega⟩, putKs_new h hl]
theorem okMul_r {i j : Int} (h : -1000000000000 ≤ j) (h' : j ≤ 1000000000000) : okMul i j := by
  have e : (2 : Int) ^ 64 = 18446744073709551616 := by decide
  unfold okMul
  rw [e]
  omega
theorem okMul_l {i j : Int} (h : -1000000000000 ≤ i) (h' : i ≤ 1000000000000) : okMul i j := by
  have e : (2 : Int) ^ 64 = 18446744073709551616 := by decide
  unfold okMul
  rw [e]
  omega
theorem mulD_ii {i j : Int} (h : okMul i j) : mulD (.int i) (.int j) = some (.int (i * j)) := by
  have e : mulI (.int i) (.int j) = some (.int (i * j)) := by simp only [mulI]; rw [if_pos h]
  unfold mulD orF
  rw [e]
theorem fdivI_ii {i j : Int} (h : 0 < j) (h' : j ≤ 1000000000000) : fdivI (.int i) (.int j) = some (.int (i / j)) := by
  have hd : okDiv j := by
    refine ⟨h, ?_⟩
    have : j.natAbs ≤ 1000000000000 := by omega
    have h0 : j.natAbs ≠ 0 := by omega
    exact (Nat.log2_lt h0).mpr (Nat.lt_of_le_of_lt this (by decide +kernel))
  simp only [fdivI]
  rw [if_pos hd]
theorem powI_ii {i : Int} {k : Nat} (h : i.natAbs ≤ 1000000000000) (hk : k ≤ 1000) : powI (.int i) (.int (k : Nat)) = some (.int (i ^ k)) := by
  have hp : okPow i (k : Nat) := ⟨by omega, by omega, Nat.lt_of_le_of_lt h (by decide +kernel)⟩
  simp only [powI]
  rw [if_pos hp]
  simp
/-! ### operators, worked out -/
theorem ix3_0 (a b c : D) : ixD (.tup [a, b, c]) (.int 0) = some a := rfl
theorem ix3_1 (a b c : D) : ixD (.tup [a, b, c]) (.int 1) = some b := rfl
theorem ix3_2 (a b c : D) : ixD (.tup [a, b, c]) (.int 2) = some c := rfl
theorem ixL {ds : List D} {k : Nat} {d : D} (h : ds[k]? = some d) : ixD (.lst ds) (.int (k : Int)) = some d := by
  have hl := (List.getElem?_eq_some_iff.mp h).1
  unfold ixD orF ixSq atI ixN
  simp only []
  rw [if_pos (by omega), if_pos (by omega)]
  simp [h]
theorem ixS {ns : List Int} {k : Nat} {n : Int} (h : ns[k]? = some n) : ixD (.scr ns) (.int (k : Int)) = some (.int n) := by
  have hl := (List.getElem?_eq_some_iff.mp h).1
  unfold ixD orF ixSq atI ixN
  simp only []
  rw [if_pos (by omega), if_pos (by omega)]
  simp [h]
theorem eq_ii (a b : Int) : eqD (.int a) (.int b) = some (.bl (decide (a = b))) := rfl
theorem eq_ss (a b : Str) : eqD (.str a) (.str b) = some (.bl (decide (a = b))) := rfl
theorem ne_ii (a b : Int) : neD (.int a) (.int b) = some (.bl (!decide (a = b))) := rfl
theorem ne_ss (a b : Str) : neD (.str a) (.str b) = some (.bl (!decide (a = b))) := rfl
theorem slL_to (ds : List D) (k : Nat) : slL (.lst ds) none (some (k : Int)) = some (.lst (ds.take k)) := by
  show some (D.lst ((ds.drop 0).take (HT.sIx ds.length ds.length (some (k : Int)) - 0))) = _
  rw [HT.sIx_nat]
  rw [List.drop_zero, Nat.sub_zero]
  congr 2
  by_cases h : k ≤ ds.length
  · rw [Nat.min_eq_left h]
  · rw [Nat.min_eq_right (by omega), List.take_of_length_le (by omega), List.take_of_length_le (by omega)]
theorem slL_from (ds : List D) (k : Nat) : slL (.lst ds) (some (k : Int)) none = some (.lst (ds.drop k)) := by
  show some (D.lst ((ds.drop (HT.sIx ds.length 0 (some (k : Int)))).take (ds.length - HT.sIx ds.length 0 (some (k : Int))))) = _
  rw [HT.sIx_nat]
  congr 2
  by_cases h : k ≤ ds.length
  · rw [Nat.min_eq_left h, List.take_of_length_le (by simp)]
  · rw [Nat.min_eq_right (by omega), List.drop_eq_nil_of_le (Nat.le_refl _), List.drop_eq_nil_of_le (by omega)]
    simp
end ML
end
section
set_option Elab.async false
set_option linter.all false
set_option maxRecDepth 100000
set_option autoImplicit false
/-! ML20: a list comprehension whose element may raise. -/
namespace ML
open PySem PySem.Spec PyProof.Rows L2
/-! ### the run of a comprehension, its error kept -/
def PostX (M : Model) (A : Around) (E : Value → Shared → Prop) (use : Option (Value → Sem Unit)) (Q : Value → Shared → Prop) (acc : Value) (ce : Env) (r : Result) (t : Shared) : Prop := match r, use with
  | .ok _, none => ∃ m, t.heap.Ns ce.locals m ∧ ∀ g, Heap.SameBut ce.locals t.heap g → Q acc { t with heap := g }
  | .ok _, some k => wpAny M A (k acc) (fun _ t2 => ∃ m, t2.heap.Ns ce.locals m ∧ ∀ g, Heap.SameBut ce.locals t2.heap g → Q .none { t2 with heap := g }) E t
  | .error u, _ => ∃ m, t.heap.Ns ce.locals m ∧ ∀ g, Heap.SameBut ce.locals t.heap g → wpAny M A (passOn "comprehension.variables-let-go" u ce : Sem Value) (fun _ _ => False) E { t with heap := g }
section
variable {M : Model} {A : Around} {E : Value → Shared → Prop} {s : Shared} {env : Env}
theorem comp_runX {e : Expr} {sc : Scope} {pos : Pos} {mk first : Sem Value} {g : Comprehension} {gs : List Comprehension} {cl : List (Str × Addr)} {use : Option (Value → Sem Unit)} {Q : Value → Shared → Prop}
    (c1 : clausesOf e = g :: gs) (c2 : ∀ x, foldedSetIterable g.iter env x = pure x) (c3 : closureFor sc env = pure cl) (c4 : sc.kind = .function) (c5 : ∀ y ∈ sc.names, y.2 = .local → sc.names.lookup y.1 = some .local)
    (h : wpAny M A first (fun x t1 => wpAny M A (pyIter x) (fun it t2 => wpAny M A mk (fun acc t3 => wpAny M A (newFunctionEnv sc env.globals cl [] env.qual none .none (some env)) (fun ce t4 =>
      codeAny M A (.compStart e 0 it acc { ce with scope := relabel sc env }) (PostX M A E use Q acc { ce with scope := relabel sc env }) t4) E t3) E t2) E t1) E s) : wpAny M A (comprehension e sc env pos mk false first use) Q E s := by
  unfold comprehension
  rw [c3, c1]
  refine wpAny_bind (wpAny_mono h ?_ fun _ _ z => z)
  intro x t1 k1
  refine wpAny_bind (wpAny_standAt (wpAny_bind (wpAny_of_eq (c2 x) (wpAny_bind (wpAny_holding (wpAny_mono k1 ?_ fun _ _ z => z))))))
  intro it t2 k2
  refine wpAny_standIf (wpAny_bind (wpAny_mono k2 ?_ fun _ _ z => z))
  intro acc t3 k3
  refine wpAny_bind (wpAny_pure (wpAny_bind (wpAny_mono k3 ?_ fun _ _ z => z)))
  intro ce t4 k4
  dsimp only
  have vis : ∀ y ∈ (sc.names.filter fun y => (y.2 == .local || y.2 == .cell) && y.1 != (".0" : Str)).reverse, y.2 = .local → Env.kindOf { ce with scope := relabel sc env } y.1 = some .local := by
    intro y hy hl
    exact lookup_relabel_local (c5 y (List.mem_filter.mp (List.mem_reverse.mp hy)).1 hl)
  refine wpAny_holding (wpAny_bind (wpAny_attempt (wpAny_holding (wpAny_run (codeAny_mono k4 ?_)))))
  intro r t5 hr
  cases r with
  | ok f =>
    cases use with
    | none =>
      obtain ⟨m, hn, q⟩ := hr
      refine wpAny_bind (wpAny_holding (wpAny_comp_letGo (cenv := { ce with scope := relabel sc env }) c4 _ t5 m vis hn ?_))
      intro g' m' _ sb
      exact wpAny_pure (q g' sb)
    | some k =>
      refine wpAny_bind (wpAny_rule (wpAny_bind (wpAny_holding (wpAny_mono hr ?_ fun _ _ z => z))))
      intro _ t6 hr6
      obtain ⟨m, hn, q⟩ := hr6
      refine wpAny_bind (wpAny_comp_letGo (cenv := { ce with scope := relabel sc env }) c4 _ t6 m ?_ hn ?_)
      · intro y hy hl
        rcases List.mem_append.mp hy with z | z
        · exact vis y (List.mem_of_mem_drop z) hl
        · exact vis y (List.mem_of_mem_take z) hl
      · intro g' m' _ sb
        exact wpAny_pure (q g' sb)
  | error u =>
    have hr : ∃ m, t5.heap.Ns ce.locals m ∧ ∀ g, Heap.SameBut ce.locals t5.heap g → wpAny M A (PySem.passOn "comprehension.variables-let-go" u { ce with scope := relabel sc env } : Sem Value) (fun _ _ => False) E { t5 with heap := g } := by cases use <;> exact hr
    obtain ⟨m, hn, q⟩ := hr
    refine wpAny_bind (wpAny_holding (wpAny_comp_letGo (cenv := { ce with scope := relabel sc env }) c4 _ t5 m vis hn ?_))
    intro g' m' _ sb
    exact wpAny_mono (q g' sb) (fun _ _ z => z.elim) fun _ _ z => z
end
/-! ### an exception noted, whatever frame held it -/
section
variable {M : Model} {A : Around} {E : Value → Shared → Prop} {s : Shared} {Z : Obj → Prop} {base : Heap} {env : Env} {outer : List Env} {L a : Addr}
theorem note_any {fl : Value} {Q : Unit → Shared → Prop} (hZ : HandSPX.Steady Z) (hfr : A.frames = some (env :: outer)) (hf : env.frame = some L) (k1 : base.StaysIn s.heap) (k2 : base.get? a = none) (k3 : s.heap.FunFrames base (env :: outer)) (k4 : HandSPX.TracedZ s.heap base a Z fl)
    (hne : (fl == rawInt L) = false) (q : ∀ g, HandSPX.HeldZ base (env :: outer) a Z L g → s.heap.UpToSlots g → Q () { s with heap := g }) : wpAny M A (noteFrame (.ref a) env) Q E s := by
  obtain ⟨oa, va, T, ot, vt, ha, za, da, ia, nT, neT, hT, dT, iT⟩ := k4
  unfold noteFrame
  simp only [hf]
  refine wpAny_bind (wpAny_field ha da ia ?_)
  rw [if_pos (by simp)]
  refine wpAny_bind (wpAny_field hT dT iT ?_)
  rw [if_neg (by rw [hne]; exact Bool.false_ne_true)]
  refine wpAny_bind (wpAny_setField hT dT (Array.getElem?_eq_some_iff.mp iT).1 ?_)
  have oth : ∀ b, b ≠ T → (s.heap.update T (Obj.mapFields (·.setIfInBounds 3 Value.none))).get? b = s.heap.get? b := fun b z => Heap.get?_update_other _ _ (Ne.symm z)
  have nrec : ∀ b o, s.heap.get? b = some o → (∀ vs, o.data ≠ .fields vs) → b ≠ T := by
    intro b o e n z
    rw [z, hT] at e
    cases e
    exact n _ dT
  have f1 : (s.heap.update T (Obj.mapFields (·.setIfInBounds 3 Value.none))).FunFrames base (env :: outer) := k3.of_keeps fun b o e n => ⟨o, (oth b (nrec b o e n)).trans e, rfl⟩
  have f2 : base.StaysIn (s.heap.update T (Obj.mapFields (·.setIfInBounds 3 Value.none))) := by
    intro b o e
    refine (oth b fun z => ?_).trans (k1 b o e)
    rw [z, nT] at e
    cases e
  refine HandSPX.wpAny_entryZ hZ hfr f1 hf ((oth a (Ne.symm neT)).trans ha) f2 k2 da (Array.getElem?_eq_some_iff.mp ia).1 za fun g N => ?_
  obtain ⟨y1, y2, y3, y4⟩ := N
  refine q g ⟨y1, k2, y2, y3⟩ fun b o e n => ?_
  exact y4 b o ((oth b (nrec b o e n)).trans e) n
theorem note_eq {ce : Env} (u : Value) (h : ce.frame = env.frame) : noteFrame u ce = noteFrame u env := by
  unfold noteFrame PySem.frameOf
  rw [h]
/-- what is said of objects off the ground -/
theorem frames_off {h g B B' : Heap} (k : ∀ b, B.get? b = none → B'.get? b = none ∧ g.get? b = h.get? b) : ∀ {l : List Env}, h.FunFrames B l → g.FunFrames B' l
  | [], _ => trivial
  | e :: l, ⟨h1, ⟨L, o, h2, h3, h4, h5⟩, h6⟩ => ⟨h1, ⟨L, o, h2, (k L h3).1, (k L h3).2.trans h4, h5⟩, frames_off k h6⟩
theorem traced_off {h g B B' : Heap} {fl : Value} (k : ∀ b, B.get? b = none → B'.get? b = none ∧ g.get? b = h.get? b) (ha : B.get? a = none) (t : HandSPX.TracedZ h B a Z fl) : HandSPX.TracedZ g B' a Z fl := by
  obtain ⟨oa, va, T, ot, vt, e1, e2, e3, e4, e5, e6, e7, e8, e9⟩ := t
  exact ⟨oa, va, T, ot, vt, (k a ha).2.trans e1, e2, e3, e4, (k T e5).1, e6, (k T e5).2.trans e7, e8, e9⟩
end
/-! ### the block -/
theorem ok_xe {X : Cx} (e : Value → Shared → Prop) (o : X.Ok) : ({ X with xe := e } : Cx).Ok := ⟨o.mod, o.kind, o.glob, o.blt, o.above, o.inj, o.has, o.cab, o.hd, o.frames, o.stk, o.exf, o.bs, o.bsz, o.noex, o.exfs, o.funs, o.frf⟩
theorem inv_xe {X : Cx} (e : Value → Shared → Prop) {pins : List (Addr × Obj)} {σ : L2.St} {H : Hp} {s : Shared} (I : Inv X pins σ H s) : Inv { X with xe := e } pins σ H s := ⟨ok_xe e I.ok, I.os, I.bare, I.base, I.loc, I.cell, I.free, I.freeC, I.pin, I.hok, I.len⟩
/-- the context of a block whose element may raise -/
abbrev blkX (X : Cx) (W : WX) (s : Shared) (H : Hp) (sc : Scope) (ce : Env) (fp : List Addr) : Cx := { X.blk s H sc ce fp with xe := XE (X.blk s H sc ce fp) W }
theorem blkX_takes {X : Cx} {W : WX} {s : Shared} {H : Hp} {sc : Scope} {ce : Env} {fp : List Addr} : Takes (blkX X W s H sc ce fp) W := fun u t ⟨a, B, sI, pins, σ, H', cls, d, e, I, r⟩ => ⟨a, B, sI, pins, σ, H', cls, d, e, inv_xe (fun _ _ => False) I, r⟩
theorem err_out {X : Cx} {W : WX} {pins : List (Addr × Obj)} {σ : L2.St} {H : Hp} {s : Shared} {sc : Scope} {ce : Env} {fp : List Addr} {E1 : Value → Shared → Prop} (hst : X.stack = X.env :: X.outer) (hf : X.env.frame = some X.env.locals) (tk : Takes X W) (hW : ∀ cls d σ σ' H, W cls d σ H → W cls d σ' H)
    (I0 : Inv X pins σ H s) (cL : ce.locals = s.heap.objs.size) (cf : ce.frame = X.env.frame) (hfp : ∀ b ∈ fp, FpOk X pins H b) {u : Value} {t : Shared} (x : XE (X.blk s H sc ce fp) W u t) :
    wpAny (model X.prog X.w) X.A (noteFrame u ce) (fun _ t2 => ∃ m, t2.heap.Ns ce.locals m ∧ ∀ g, Heap.SameBut ce.locals t2.heap g → wpAny (model X.prog X.w) X.A (passOn "comprehension.variables-let-go" u ce : Sem Value) (fun _ _ => False) X.xe { t2 with heap := g }) E1 t := by
  obtain ⟨a, B, sI, pins', σb, Hb, cls, d, rfl, I, nb, up, sky, na, os, ag, w⟩ := x
  have hA : X.A.frames = some (X.env :: X.outer) := by rw [← hst]; exact I0.ok.frames
  rw [note_eq _ cf]
  have nC : Hb ce.locals = none := I.free
  obtain ⟨m, hm, _⟩ := I.loc
  have hm : sI.heap.Ns ce.locals m := hm
  have fC : ce.locals ∉ frs X.stack := fun z => by
    rcases List.mem_cons.mp (I0.stkSub _ z) with e | e
    · have := I0.lt
      rw [← cL, e] at this
      exact absurd this (Nat.lt_irrefl _)
    · exact I0.nofs (Nat.le_of_eq cL.symm) e
  have neC : X.env.locals ≠ ce.locals := fun z => by
    have := I0.lt
    rw [← cL, ← z] at this
    exact absurd this (Nat.lt_irrefl _)
  obtain ⟨oC, hoC⟩ : ∃ o, sI.heap.get? ce.locals = some o := by
    obtain ⟨o, es, ep, ho, _⟩ := hm
    exact ⟨o, ho⟩
  have hBC : B.get? ce.locals = some oC := nb _ _ hoC fC
  obtain ⟨G, g1, g2⟩ := restrict sI.heap fun b => !decide (b = ce.locals)
  have gk : ∀ b o, b ≠ ce.locals → sI.heap.get? b = some o → G.get? b = some o := fun b o z e => (g1 b (by simp [z])).trans e
  have gb : ∀ b o, G.get? b = some o → b ≠ ce.locals ∧ sI.heap.get? b = some o := fun b o e => by
    by_cases z : b = ce.locals
    · rw [g2 b (by simp [z])] at e
      cases e
    · exact ⟨z, (g1 b (by simp [z])).symm.trans e⟩
  have I7 : Inv X pins σ Hb sI := I0.call' (ch := fp) I.os I.base I.hok I.bare fun b hb => ⟨(hfp b hb).2.2.2.1, (hfp b hb).2.1, (hfp b hb).2.2.2.2.1, (hfp b hb).2.2.2.2.2⟩
  obtain ⟨f0, f1, f2, f3, f4, f5⟩ := I0.fpOk (Nat.le_of_eq cL.symm) nC
  have I8 : Inv X pins σ Hb { sI with heap := G, toks := sI.toks } := I7.turned gk f0 f1 f3 f4 f5
  obtain ⟨B', b1, b2⟩ := restrict B fun b => !decide (b = ce.locals)
  have sky : Sky B (X.env :: X.outer) a (Zc cls d) ce.locals t.heap := by rw [← hst]; exact sky
  have fin : ∀ h1, HandSPX.HeldZ B (X.env :: X.outer) a (Zc cls d) X.env.locals h1 → t.heap.UpToSlots h1 → ∃ m, h1.Ns ce.locals m ∧ ∀ g, Heap.SameBut ce.locals h1 g → wpAny (model X.prog X.w) X.A (passOn "comprehension.variables-let-go" (.ref a) ce : Sem Value) (fun _ _ => False) X.xe { t with heap := g } := by
    intro h1 hh up1
    refine ⟨m, (up.trans up1).ns hm, fun g sb => ?_⟩
    obtain ⟨k1, k2, k3, k4⟩ := hh
    have off : ∀ b, B.get? b = none → B'.get? b = none ∧ g.get? b = h1.get? b := fun b e => by
      have hb : b ≠ ce.locals := fun z => by rw [z, hBC] at e; cases e
      exact ⟨(b1 b (by simp [hb])).trans e, sb.2 b hb⟩
    have s1 : B'.StaysIn g := fun b o e => by
      by_cases z : b = ce.locals
      · rw [b2 b (by simp [z])] at e
        cases e
      · rw [b1 b (by simp [z])] at e
        exact (sb.2 b z).trans (k1 b o e)
    have s3 := frames_off off k3
    have s4 := traced_off off k2 k4
    obtain ⟨oa, va, T, ot, vt, e1, e2, e3, e4, _⟩ := id s4
    unfold PySem.passOn
    refine wpAny_bind (wpAny_field e1 e3 e4 ?_)
    rw [if_neg (by simp), cf, hf]
    refine wpAny_bind (HandSPX.setFlight_anyZ s1 s3 s4 fun g3 j1 j2 j3 j4 => ?_)
    refine wpAny_throw (tk _ _ ⟨a, B', { sI with heap := G, toks := sI.toks }, pins, σ, Hb, cls, d, rfl, I8, fun b o e n => ?_, fun b o e n => ?_, .inr (.inr ?_), na, os, ag, hW _ _ _ _ _ w⟩)
    · obtain ⟨z, e⟩ := gb b o e
      exact (b1 b (by simp [z])).trans (nb b o e n)
    · obtain ⟨z, e⟩ := gb b o e
      obtain ⟨sl, q1⟩ := up.trans up1 b o e n
      exact j4 b _ ((sb.2 b z).trans q1) n |>.imp fun sl2 q2 => q2
    · rw [hst]
      exact ⟨j1, (off a k2).1, j2, j3⟩
  rcases sky with ⟨k1, k2, k3, oa, va, h1, h2, h3, h4⟩ | ⟨k1, k2, k3, k4⟩ | ⟨k1, k2, k3, k4⟩
  · exact HandSPX.look_newZ Zc.steady hA k3 hf h1 k1 k2 h3 h4 h2 fin
  · exact note_any Zc.steady hA hf k1 k2 k3 k4 (by simp [rawInt]) fin
  · exact note_any Zc.steady hA hf k1 k2 k3 k4 (by simp [rawInt]; exact fun z => neC (Int.ofNat.inj z.symm)) fin
/-- [elt for tg in iter if ..], the element may raise -/
theorem lcX_core {X : Cx} {W : WX} {pins : List (Addr × Obj)} {s : Shared} {σ : L2.St} {H : Hp} {Q : VK} {use : Option (Value → Sem Unit)} {Qf : Value → Shared → Prop} {pos' : Pos} (hst : X.stack = X.env :: X.outer) (hf : X.env.frame = some X.env.locals) (tk : Takes X W) (hW : ∀ cls d σ σ' H, W cls d σ H → W cls d σ' H) {elt tg iter : Expr} {ifs : List Expr} {sc : Scope} {own : List (Str × Nat)} {pos : Pos} {wi : TI} {g : TG} {tt : TT} {te : TE} (hc : X.calm = true) (hN : X.N.Nodup) (I : Inv X pins σ H s) (hi : PI X tg iter wi)
    (ok : BlkOk X.N X.env.scope sc own) (hg : ∀ s H Ca cl fp, PG (blkX X W s H sc (compEnvC sc cl Ca X.env) fp) tg g) (ht : ∀ s H Ca cl fp, PTs (blkX X W s H sc (compEnvC sc cl Ca X.env) fp) ifs tt)
    (he : ∀ s H Ca cl fp, PE (blkX X W s H sc (compEnvC sc cl Ca X.env) fp) elt te) (hs : ∀ x, foldedSetIterable iter X.env x = pure x)
    (h : tLc wi g tt te (own.map (·.2)) σ H Q) (hR : ∀ D ce t m H', Inv X pins σ H' t → Q (.ref D) H' → t.heap.Ns ce.locals m → FpOk X pins H' ce.locals → PostX (model X.prog X.w) X.A X.xe use Qf (.ref D) ce (.ok .next) t) :
    wpAny (model X.prog X.w) X.A (comprehension (.ListComp elt [⟨tg, iter, ifs, 0⟩] sc pos) sc X.env pos' (newList []) false (eval iter X.env) use) Qf X.xe s := by
  have fr : ∀ y ∈ sc.names, y.2 = .free → ∃ c, X.env.cells.lookup y.1 = some c := fun y hy e => (ok.free y hy e).elim (fun k => I.ok.has _ (.inl k)) fun k => I.ok.has _ (.inr k)
  refine comp_runX rfl hs (closure_ok fr) ok.kind (fun y hy e => by rw [ok.uniq y hy, e]) (wpAny_mono (hi.run pins s σ H _ I h) (fun xv t1 hx => wpAny_mono hx (fun itv t2 h2 => ?_) fun _ _ z => z) fun _ _ z => z)
  obtain ⟨it, fp, tn, J, H2, rfl, I2, T, st2, f2, q⟩ := h2
  refine wpAny_newObj_type (newEnv_comp ?_) (by show 0 ≤ sizeLine; decide)
  generalize hD : t2.heap.objs.size = D
  have nD : H2 D = none := I2.hok.fresh (Nat.le_of_eq hD)
  obtain ⟨Wm, ⟨m0, w0⟩, turn⟩ := q D nD
  generalize ht3 : ({ t2 with heap := t2.heap.push { cls := .type "list", data := .seq ([] : List Value).toArray } } : Shared) = t3
  have I3 : Inv X pins σ (upd H2 D (.lst [])) t3 := by
    subst ht3
    refine I2.laid (t' := t2.toks) (fun b o e => Heap.get?_push_of_some _ e) (Nat.le_of_eq hD) ⟨Nat.zero_le _, [], 0, .nil, ?_⟩
    rw [← hD]
    exact Heap.get?_push_size _ rfl
  have e3 : t3.heap = t2.heap.push { cls := .type "list", data := .seq ([] : List Value).toArray } := by rw [← ht3]
  have f3 : ∀ b ∈ fp, FpOk X pins (upd H2 D (.lst [])) b ∧ b < t3.heap.objs.size := fun b hb => by
    obtain ⟨o, e, _⟩ := T.obj _ _ st2 b hb
    have lt := Heap.lt_size e
    refine ⟨⟨?_, (f2 b hb).2⟩, by rw [e3, Heap.size_push]; exact Nat.lt_succ_of_lt lt⟩
    rw [upd_ne (by rw [← hD]; exact Nat.ne_of_lt lt)]
    exact (f2 b hb).1
  have st3 : tn 0 t3.heap := T.keep _ _ _ st2 fun b _ o e => by rw [e3]; exact Heap.get?_push_of_some _ e
  have I4 := inv_xe (XE (X.blk t3 (upd H2 D (.lst [])) sc (compEnvC sc (cellsFrom (t3.heap.objs.size + 1) sc.names (cloFrom X.env.cells sc.names [])) t3.heap.objs.size X.env) fp) W) (block_start I3 ok hN f3)
  have pg := hg t3 (upd H2 D (.lst [])) t3.heap.objs.size (cellsFrom (t3.heap.objs.size + 1) sc.names (cloFrom X.env.cells sc.names [])) fp
  have pt := ht t3 (upd H2 D (.lst [])) t3.heap.objs.size (cellsFrom (t3.heap.objs.size + 1) sc.names (cloFrom X.env.cells sc.names [])) fp
  have pe := he t3 (upd H2 D (.lst [])) t3.heap.objs.size (cellsFrom (t3.heap.objs.size + 1) sc.names (cloFrom X.env.cells sc.names [])) fp
  show codeAny _ _ (.compStart (.ListComp elt [⟨tg, iter, ifs, 0⟩] sc pos) 0 (.ref it) (.ref D) (compEnvC sc (cellsFrom (t3.heap.objs.size + 1) sc.names (cloFrom X.env.cells sc.names [])) t3.heap.objs.size X.env)) (PostX (model X.prog X.w) X.A X.xe use Qf (.ref D) (compEnvC sc (cellsFrom (t3.heap.objs.size + 1) sc.names (cloFrom X.env.cells sc.names [])) t3.heap.objs.size X.env)) { t3 with heap := pushCells (t3.heap.push { cls := .type "dict", data := .dict #[] }) sc.names }
  have nfp : ∀ b ∈ fp, (upd H2 D (.lst [])) b = none := fun b hb => (f3 b hb).1.1
  generalize hce : compEnvC sc (cellsFrom (t3.heap.objs.size + 1) sc.names (cloFrom X.env.cells sc.names [])) t3.heap.objs.size X.env = ce at I4 pg pt pe ⊢
  have cL : ce.locals = t3.heap.objs.size := by subst hce; rfl
  have cf : ce.frame = X.env.frame := by subst hce; rfl
  generalize hH3 : upd H2 D (.lst []) = H3 at I3 I4 pg pt pe w0 nfp f3
  generalize ht4 : ({ t3 with heap := pushCells (t3.heap.push { cls := .type "dict", data := .dict #[] }) sc.names } : Shared) = t4 at I4 ⊢
  have st4 : tn 0 t4.heap := T.keep _ _ _ st3 fun b _ o e => by rw [← ht4]; exact pushCells_keeps _ _ _ _ (Heap.get?_push_of_some _ e)
  have out : ∀ (u : Value) (t : Shared), (blkX X W t3 H3 sc ce fp).xe u t → notedBy (model X.prog X.w) X.A ce (fun v t' => PostX (model X.prog X.w) X.A X.xe use Qf (.ref D) ce (.error v) t') u t := fun u t x => err_out hst hf tk hW I3 cL cf (fun b hb => (f3 b hb).1) x
  have stat : ∀ {σ' : L2.St} {H' : Hp} {t' : Shared}, Inv (blkX X W t3 H3 sc ce fp) [] σ' H' t' → (∀ b ∈ fp, H' b = none) → ∀ b ∈ fp, FpOk (blkX X W t3 H3 sc ce fp) [] H' b := fun {σ' H' t'} J' n b hb =>
    ⟨n b hb, (J'.ok.exf b hb).1, J'.ok.exfs b hb, .inl hb, fun y c e => (J'.ok.exf b hb).2 y c e, fun p hp => absurd (show p ∈ ([] : List (Addr × Obj)) ++ [] from hp) (by simp)⟩
  have loop : codeAny (model X.prog X.w) X.A (.compLoop (.ListComp elt [⟨tg, iter, ifs, 0⟩] sc pos) 0 (.ref it) (.ref D) ce) (PostX (model X.prog X.w) X.A X.xe use Qf (.ref D) ce) t4 := by
    refine compLoop_any (fun n t => ∃ i H', Inv (blkX X W t3 H3 sc ce fp) [] (wipe σ (own.map (·.2))) H' t ∧ tn i t.heap ∧ (∀ b ∈ fp, H' b = none) ∧ Wm i n H') ?_ m0 ⟨0, H3, I4, st4, nfp, w0⟩
    rintro n t5 ⟨i, H5, I5, st5, n5, w5⟩
    rcases turn i n H5 w5 with ⟨stop, qq⟩ | ⟨go, Nx, hNx, step⟩
    · refine thnF (T.done (blkX X W t3 H3 sc ce fp) rfl rfl rfl hc i [] t5 _ H5 (fun _ _ => False) I5 (stat I5 n5) st5 stop) fun r t6 ⟨hr, I6⟩ => ?_
      subst hr
      have I7 : Inv X pins σ H5 t6 := I3.call' (ch := fp) I6.os I6.base I6.hok I6.bare fun b hb => ⟨(f3 b hb).1.2.2.2.1, (f3 b hb).1.2.1, (f3 b hb).1.2.2.2.2.1, (f3 b hb).1.2.2.2.2.2⟩
      have nC : H5 ce.locals = none := I6.free
      obtain ⟨m, hn, _⟩ := I6.loc
      exact hR D ce t6 m H5 I7 qq hn (I3.fpOk (Nat.le_of_eq cL.symm) nC)
    · refine thnF (T.item (blkX X W t3 H3 sc ce fp) rfl rfl rfl hc i [] t5 _ H5 (fun _ _ => False) I5 (stat I5 n5) st5 go) fun r t6 ⟨u, hr, h6⟩ => ?_
      subst hr
      refine thnF h6 fun _ t7 ⟨x, H7, I7, r7, y7, st7, n7⟩ => ?_
      have I7' := I7.pinned (stat I7 n7) (T.obj _ _ st7)
      refine wpAny_mono (pg.run _ t7 _ H7 x u _ I7' r7 (step x H7 y7)) (fun _ t8 ⟨σ8, H8, I8, hw8, q8⟩ => ?_) out
      refine wpAny_mono (pt.run _ t8 σ8 H8 _ I8 q8) (fun b t9 ⟨H9, I9, q9⟩ => ?_) out
      have fin : ∀ {t' : Shared} {H' : Hp}, Inv (blkX X W t3 H3 sc ce fp) ([] ++ pinsAt fp t7.heap) σ8 H' t' → Nx H' → ∃ m, m < n ∧ ∃ i H', Inv (blkX X W t3 H3 sc ce fp) [] (wipe σ (own.map (·.2))) H' t' ∧ tn i t'.heap ∧ (∀ b ∈ fp, H' b = none) ∧ Wm i m H' := fun {t' H'} J' nx => by
        obtain ⟨m', hm, w'⟩ := hNx H' nx
        have pin : ∀ b ∈ fp, ∀ o, t7.heap.get? b = some o → t'.heap.get? b = some o ∧ H' b = none := fun b hb o e =>
          ⟨(J'.pin (b, o) (List.mem_append_right _ (List.mem_append_right _ (mem_pinsAt hb e)))).1, (J'.pin (b, o) (List.mem_append_right _ (List.mem_append_right _ (mem_pinsAt hb e)))).2.1⟩
        have hl : (wipe σ (own.map (·.2))).length = σ8.length := by rw [← hw8, wipe_length]
        refine ⟨m', hm, i + 1, H', (J'.unpinned (pins := [])).weak hl (fun j v e => ?_), T.keep _ _ _ st7 fun b hb o e => (pin b hb o e).1, fun b hb => ?_, w'⟩
        · rw [← hw8] at e
          exact (wipe_some e).1
        · obtain ⟨o, e, _⟩ := T.obj _ _ st7 b hb
          exact (pin b hb o e).2
      cases b with
      | false =>
        simp only [Bool.false_eq_true, if_false] at q9 ⊢
        exact fin I9 q9
      | true =>
        simp only [if_true] at q9 ⊢
        refine wpAny_mono (pe.run _ t9 σ8 H9 _ I9 q9) (fun z t10 ⟨yv, H10, I10, r10, acc, hD10, hz10, nx⟩ => ?_) out
        exact app_ok (X := blkX X W t3 H3 sc ce fp) I10 hD10 hz10 r10 fun t11 I11 => fin I11 nx
  exact codeAny_compStart_list loop (T.self X.A 0 _ _ _ st4 loop)
/-- as a value -/
theorem pe_lcX {X : Cx} {W : WX} (hst : X.stack = X.env :: X.outer) (hf : X.env.frame = some X.env.locals) (tk : Takes X W) (hW : ∀ cls d σ σ' H, W cls d σ H → W cls d σ' H) {elt tg iter : Expr} {ifs : List Expr} {sc : Scope} {own : List (Str × Nat)} {pos : Pos} {wi : TI} {g : TG} {tt : TT} {te : TE} (hc : X.calm = true) (hN : X.N.Nodup) (hi : PI X tg iter wi)
    (ok : BlkOk X.N X.env.scope sc own) (hg : ∀ s H Ca cl fp, PG (blkX X W s H sc (compEnvC sc cl Ca X.env) fp) tg g) (ht : ∀ s H Ca cl fp, PTs (blkX X W s H sc (compEnvC sc cl Ca X.env) fp) ifs tt)
    (he : ∀ s H Ca cl fp, PE (blkX X W s H sc (compEnvC sc cl Ca X.env) fp) elt te) (hs : ∀ x, foldedSetIterable iter X.env x = pure x := by intro _; rfl) : PE X (.ListComp elt [⟨tg, iter, ifs, 0⟩] sc pos) (tLc wi g tt te (own.map (·.2))) := by
  refine ⟨fun pins s σ H Q I h => ?_⟩
  rw [eval_ListComp]
  refine lcX_core hst hf tk hW hc hN I hi ok hg ht he hs h fun D ce t m H' J q hn f => ⟨m, hn, fun g' sb => ?_⟩
  obtain ⟨f0, f1, f2, f3, f4, f5⟩ := f
  exact ⟨.ref D, H', J.turned (t' := t.toks) (fun b o hb e => (sb.2 b hb).trans e) f0 f1 f3 f4 f5, rfl, q⟩
/-- name = [..] on one line -/
theorem ps_setLcX {X : Cx} {W : WX} (hst : X.stack = X.env :: X.outer) (hf : X.env.frame = some X.env.locals) (tk : Takes X W) (hW : ∀ cls d σ σ' H, W cls d σ H → W cls d σ' H) {i : Nat} {y : Str} {py : Pos} {elt tg iter : Expr} {ifs : List Expr} {sc : Scope} {own : List (Str × Nat)} {pos spos : Pos} {wi : TI} {g : TG} {tt : TT} {te : TE} (hc : X.calm = true) (hN : X.N.Nodup)
    (hy : X.N[i]? = some y) (hyl : X.env.scope.names.lookup y = some .local) (hsw : swapsWith (.ListComp elt [⟨tg, iter, ifs, 0⟩] sc pos) (some (.Name y py)) spos.line X.env = pure true) (hi : PI X tg iter wi) (ok : BlkOk X.N X.env.scope sc own)
    (hg : ∀ s H Ca cl fp, PG (blkX X W s H sc (compEnvC sc cl Ca X.env) fp) tg g) (ht : ∀ s H Ca cl fp, PTs (blkX X W s H sc (compEnvC sc cl Ca X.env) fp) ifs tt) (he : ∀ s H Ca cl fp, PE (blkX X W s H sc (compEnvC sc cl Ca X.env) fp) elt te) (hs : ∀ x, foldedSetIterable iter X.env x = pure x := by intro _; rfl) :
    PS X (.Assign [.Name y py] (.ListComp elt [⟨tg, iter, ifs, 0⟩] sc pos) spos) (tAsg (tLc wi g tt te (own.map (·.2))) (gName i)) := by
  refine ⟨fun pins s σ H D I h => ?_⟩
  rw [exec_Assign_Name_used _ _ _ _ hsw]
  refine wpAny_bind (wpAny_standAt (wpAny_bind ?_))
  have h : tLc wi g tt te (own.map (·.2)) σ H (fun x H1 => gName i x σ H1 D.nx) := h
  refine wpAny_bind (thn (lcX_core (use := some (assign (.Name y py) X.env)) (pos' := firstIterPos [⟨tg, iter, ifs, 0⟩] pos) (Qf := fun _ t => SP X pins D .next t) hst hf tk hW hc hN I hi ok hg ht he hs h fun L ce t m H' J q hn f => ?_) fun _ t z => wpAny_pure (wpAny_pure z))
  show wpAny _ _ (assign (.Name y py) X.env (.ref L)) _ _ _
  refine wpAny_assign_Name (store_ok2 (v := V.ref L) J hN hy (.inl hyl) rfl (fun t2 J2 ⟨a, sb, ha⟩ => ?_) (.inr hyl))
  obtain ⟨f0, f1, f2, f3, f4, f5⟩ := f
  have ne : ce.locals ≠ a := by
    rcases ha with z | z
    · rw [z]
      exact f1
    · exact fun e => f4 y a z e.symm
  refine ⟨m, hn.sameBut sb ne, fun g3 sb3 => ?_⟩
  exact ⟨_, H', J2.turned (t' := t2.toks) (fun b o hb e => (sb3.2 b hb).trans e) f0 f1 f3 f4 f5, q⟩
end ML
end
section
set_option Elab.async false
set_option linter.all false
set_option maxRecDepth 100000
set_option autoImplicit false
/-! ML21: list comprehensions that may raise, as m-terms. -/
namespace ML
open PySem PySem.Spec PyProof.Rows L2
def lcX (g : D → S → Option S) (mt : MT) (me : ME) (vs : List Nat) : List D → List D → S → R (List D)
  | [], acc, s => .ok acc s
  | d :: r, acc, s => match g d s with
    | none => .err
    | some s2 => match mt s2 with
      | .ok true s3 => match me s3 with
        | .ok y s4 => if isSlot y = false ∧ acc.length < sizeLine then lcX g mt me vs r (acc ++ [y]) (wipeS vs s4) else .err
        | .exc x s4 => .exc x (wipeS vs s4)
        | .err => .err
      | .ok false s3 => lcX g mt me vs r acc (wipeS vs s3)
      | _ => .err
def mLcX (mi : MI) (g : D → S → Option S) (mt : MT) (me : ME) (vs : List Nat) : ME := fun s => (mi s).bind fun ds s1 => match lcX g mt me vs ds [] (wipeS vs s1) with
  | .ok acc s2 => .ok (.lst acc) (backS vs s1 s2)
  | .exc x s2 => .exc x (backS vs s1 s2)
  | .err => .err
def endX (vs : List Nat) (s1 : S) : R (List D) → R D
  | .ok acc s2 => .ok (.lst acc) (backS vs s1 s2)
  | .exc x s2 => .exc x (backS vs s1 s2)
  | .err => .err
section
variable {C : Ctx} {X : Cx} {W : WX} {pos : Pos}
theorem Kb.blkX {k : Nat} (h : Kb C X W k) {s : Shared} {H : Hp} {sc : Scope} {ce : Env} {fp : List Addr} : Kb C (ML.blkX X W s H sc ce fp) W k := ⟨h.hK, h.calm, blkX_takes, h.hr, h.nd⟩
theorem lc_okX {elt tg iter : Expr} {ifs : List Expr} {scope : Scope} {own : List (Str × Nat)} {mi : MI} {js : List Nat} {g : D → S → Option S} {mt : MT} {me : ME} (hW : ∀ cls d σ σ' H, W cls d σ H → W cls d σ' H) (hc : X.calm = true) (hN : X.N.Nodup) (hi : RI C X W tg iter mi) (ok : BlkOk X.N X.env.scope scope own)
    (hg : ∀ s H Ca cl fp, RG C (blkX X W s H scope (compEnvC scope cl Ca X.env) fp) tg js g) (hj : ∀ j ∈ js, j ∈ own.map (·.2)) (ht : ∀ s H Ca cl fp, RTs C (blkX X W s H scope (compEnvC scope cl Ca X.env) fp) W0 ifs mt)
    (he : ∀ s H Ca cl fp, RE C (blkX X W s H scope (compEnvC scope cl Ca X.env) fp) W elt me) :
    ∃ (wi : TI) (g' : TG) (tt : TT) (te : TE), PI X tg iter wi ∧ (∀ s H Ca cl fp, PG (blkX X W s H scope (compEnvC scope cl Ca X.env) fp) tg g') ∧ (∀ s H Ca cl fp, PTs (blkX X W s H scope (compEnvC scope cl Ca X.env) fp) ifs tt) ∧ (∀ s H Ca cl fp, PE (blkX X W s H scope (compEnvC scope cl Ca X.env) fp) elt te) ∧
      ∀ (B : Bs) (ρ : List Addr) (F : Hp) (σ : St) (H : Hp) (s : S) (Q : VK), Rel C B ρ F σ H s → Post C B W σ (repF C B σ) ρ F (mLcX mi g mt me (own.map (·.2)) s) Q → tLc wi g' tt te (own.map (·.2)) σ H Q := by
  obtain ⟨ti, pi, ki⟩ := hi
  obtain ⟨tg', pg, kg⟩ := RG.uni (ι := Shared × Hp × Addr × List (Str × Addr) × List Addr) (X := fun z => blkX X W z.1 z.2.1 scope (compEnvC scope z.2.2.2.1 z.2.2.1 X.env) z.2.2.2.2) fun z => hg z.1 z.2.1 z.2.2.1 z.2.2.2.1 z.2.2.2.2
  obtain ⟨tt', pt, kt⟩ := RTs.uni (ι := Shared × Hp × Addr × List (Str × Addr) × List Addr) (X := fun z => blkX X W z.1 z.2.1 scope (compEnvC scope z.2.2.2.1 z.2.2.1 X.env) z.2.2.2.2) fun z => ht z.1 z.2.1 z.2.2.1 z.2.2.2.1 z.2.2.2.2
  obtain ⟨te', pe, ke⟩ := RE.uni (ι := Shared × Hp × Addr × List (Str × Addr) × List Addr) (X := fun z => blkX X W z.1 z.2.1 scope (compEnvC scope z.2.2.2.1 z.2.2.1 X.env) z.2.2.2.2) fun z => he z.1 z.2.1 z.2.2.1 z.2.2.2.1 z.2.2.2.2
  refine ⟨ti, tg', tt', te', pi, fun s H Ca cl fp => pg (s, H, Ca, cl, fp), fun s H Ca cl fp => pt (s, H, Ca, cl, fp), fun s H Ca cl fp => pe (s, H, Ca, cl, fp), fun B ρ F σ H s Q R h => ?_⟩
  generalize hvs : own.map (·.2) = vs at h hj ⊢
  have h : Post C B W σ (repF C B σ) ρ F ((mi s).bind fun ds s1 => endX vs s1 (lcX g mt me vs ds [] (wipeS vs s1))) Q := h
  refine ki B ρ F σ H s _ R (h.bind fun ds s1 _ ρ1 F1 H1 J _ _ R1 r1 h1 => ?_)
  have w := (show WalkD C ρ1 F1 J ds from r1).w
  intro Da hD
  obtain ⟨R2, l2⟩ := R1.free (o := .lst []) hD
  refine lc_it w (fun k H => ∃ ρ' F' s' acc us, ρ1 <+: ρ' ∧ Ex F1 F' ∧ Rel C B ρ' F' (wipe σ vs) H s' ∧ Loose B ρ' F' (wipe σ vs) H s' Da (.lst us) ∧ RepL C ρ' F' acc us ∧ Post C B W σ (repF C B σ) ρ' F' (endX vs s1 (lcX g mt me vs (ds.drop k) acc s')) Q)
    ⟨ρ1, F1, _, [], [], rfP ρ1, rfX F1, R2.wiped vs, l2.wiped, rfl, h1⟩ (fun k H _ ⟨ρ', F', s', acc, us, _, x, R', _⟩ => x.trans R'.sub) ?_ ?_
  · rintro k x H2 H3 hk ⟨ρ', F', s', acc, us, pr, xf, R', l', ra, h'⟩ ⟨d, hd, hY⟩
    obtain ⟨F2, gr, rx⟩ := hY F' xf R'.sub
    rw [List.drop_eq_getElem_cons hk] at h'
    have ed : ds[k] = d := by
      rw [List.getElem?_eq_getElem hk] at hd
      exact Option.some.inj hd
    rw [ed] at h'
    unfold lcX at h'
    have x2 := gr.exF R'.sub
    have R3 := R'.grow gr
    have l3 := l'.grow gr
    split at h'
    · exact h'.elim
    · next s2 e2 =>
      have h' := Post.weak h' (rfP ρ') x2
      refine kg (here ρ' F2 (wipe σ vs) H3 s') ρ' F2 (wipe σ vs) H3 s' s2 d x _ R3.here (rx.mono pr (rfX F2)) e2 fun σ4 R4 o4 => ?_
      have we : wipe σ4 vs = wipe σ vs := (wipe_ext (σ' := σ4) (σ := wipe σ vs) (vs := vs) o4.1 fun j hj' => o4.2 j fun z => hj' (hj j z)).trans (wipe_wipe vs)
      refine ⟨we, ?_⟩
      refine kt _ ρ' F2 σ4 H3 s2 _ R4 ?_
      cases q : mt s2 with
      | err => rw [q] at h'; exact h'.elim
      | exc x s3 => rw [q] at h'; exact h'.elim
      | ok b s3 =>
        rintro ρ5 F5 H5 b' p5 x5 R5 rfl
        cases b' with
        | false =>
          rw [if_neg Bool.false_ne_true]
          rw [q] at h'
          have R6 := (R3.back R5).wiped vs
          have l6 := (Loose.keep R3 l3 R5).wiped (vs := vs)
          rw [we] at R6 l6
          exact ⟨ρ5, F5, _, acc, us, pr.trans p5, (xf.trans x2).trans x5, R6, l6, ra.mono p5 (x2.trans x5), Post.weak h' p5 x5⟩
        | true =>
          rw [if_pos rfl]
          rw [q] at h'
          refine ke _ ρ5 F5 σ4 H5 s3 _ R5 ?_
          cases q2 : me s3 with
          | err => simp only [q2] at h'; exact h'.elim
          | exc x s4 =>
            simp only [q2] at h'
            rintro ρ6 F6 H6 cls dd p6 x6 R6 rx6
            have R8 := (R3.back R6).wiped vs
            rw [we] at R8
            exact hW _ _ _ _ _ (h' ρ6 F6 H6 cls dd (p5.trans p6) (x5.trans x6) (R1.unwipe R8 ((pr.trans p5).trans p6) (((xf.trans x2).trans x5).trans x6)) rx6)
          | ok y s4 =>
            simp only [q2] at h'
            rintro ρ6 F6 H6 yv p6 x6 R6 r6
            split at h'
            · next hy =>
              have R7 := R3.back R6
              have l7 := Loose.keep R3 l3 R6
              refine ⟨us, l7.h, by rw [ra.length]; exact hy.2, ?_⟩
              obtain ⟨R8, l8⟩ := R7.looseUpd (u := .lst (us ++ [yv])) l7
              have R9 := R8.wiped vs
              have l9 := l8.wiped (vs := vs)
              rw [we] at R9 l9
              exact ⟨ρ6, F6, _, acc ++ [y], us ++ [yv], (pr.trans p5).trans p6, ((xf.trans x2).trans x5).trans x6, R9, l9, (ra.mono (p5.trans p6) ((x2.trans x5).trans x6)).append (RepL.one (r6.rep hy.1)), Post.weak h' (p5.trans p6) (x5.trans x6)⟩
            · exact h'.elim
  · rintro H2 ⟨ρ', F', s', acc, us, pr, xf, R', l', ra, h'⟩
    rw [List.drop_length] at h'
    exact h'.now (rfP ρ') (rfX F') (R1.unwipe R' pr xf) ⟨Da, _, rfl, l'.unwipe, ⟨us, rfl, ra⟩, trivial⟩
theorem rf_lcX (hst : X.stack = X.env :: X.outer) (hf : X.env.frame = some X.env.locals) (tk : Takes X W) {elt tg iter : Expr} {ifs : List Expr} {scope : Scope} {own : List (Str × Nat)} {mi : MI} {js : List Nat} {g : D → S → Option S} {mt : MT} {me : ME} (hW : ∀ cls d σ σ' H, W cls d σ H → W cls d σ' H) (hc : X.calm = true) (hN : X.N.Nodup)
    (hi : RI C X W tg iter mi) (ok : BlkOk X.N X.env.scope scope own) (hg : ∀ s H Ca cl fp, RG C (blkX X W s H scope (compEnvC scope cl Ca X.env) fp) tg js g) (hj : ∀ j ∈ js, j ∈ own.map (·.2)) (ht : ∀ s H Ca cl fp, RTs C (blkX X W s H scope (compEnvC scope cl Ca X.env) fp) W0 ifs mt)
    (he : ∀ s H Ca cl fp, RE C (blkX X W s H scope (compEnvC scope cl Ca X.env) fp) W elt me) (hs : ∀ x, foldedSetIterable iter X.env x = pure x := by intro _; rfl) : RF C X W (.ListComp elt [⟨tg, iter, ifs, 0⟩] scope pos) (mLcX mi g mt me (own.map (·.2))) := by
  obtain ⟨ti, tg', tt', te', pi, pg, pt, pe, k⟩ := lc_okX hW hc hN hi ok hg hj ht he
  exact ⟨_, pe_lcX (own := own) hst hf tk hW hc hN pi ok pg pt pe hs, k⟩
theorem rs_setLcX (hst : X.stack = X.env :: X.outer) (hf : X.env.frame = some X.env.locals) (tk : Takes X W) {i : Bool} {n : Nat} {y : Str} {py spos : Pos} (hy : X.N[n]? = some y) (hyl : X.env.scope.names.lookup y = some .local) {elt tg iter : Expr} {ifs : List Expr} {scope : Scope} {own : List (Str × Nat)} {mi : MI} {js : List Nat} {g : D → S → Option S} {mt : MT} {me : ME}
    (hW : ∀ cls d σ σ' H, W cls d σ H → W cls d σ' H) (hc : X.calm = true) (hN : X.N.Nodup) (hi : RI C X W tg iter mi) (ok : BlkOk X.N X.env.scope scope own) (hg : ∀ s H Ca cl fp, RG C (blkX X W s H scope (compEnvC scope cl Ca X.env) fp) tg js g) (hj : ∀ j ∈ js, j ∈ own.map (·.2))
    (ht : ∀ s H Ca cl fp, RTs C (blkX X W s H scope (compEnvC scope cl Ca X.env) fp) W0 ifs mt) (he : ∀ s H Ca cl fp, RE C (blkX X W s H scope (compEnvC scope cl Ca X.env) fp) W elt me) (hsw : swapsWith (.ListComp elt [⟨tg, iter, ifs, 0⟩] scope pos) (some (.Name y py)) spos.line X.env = pure true) (hs : ∀ x, foldedSetIterable iter X.env x = pure x := by intro _; rfl) :
    RS C X W i (.Assign [.Name y py] (.ListComp elt [⟨tg, iter, ifs, 0⟩] scope pos) spos) (mSet n (mLcX mi g mt me (own.map (·.2)))) := by
  obtain ⟨ti, tg', tt', te', pi, pg, pt, pe, k⟩ := lc_okX hW hc hN hi ok hg hj ht he
  refine ⟨_, ps_setLcX (own := own) hst hf tk hW hc hN hy hyl hsw pi ok pg pt pe hs, fun B ρ F σ H s D hi R h => k B ρ F σ H s _ R (h.bind fun d s1 _ ρ1 F1 H1 v _ _ R1 r1 h1 => ?_)⟩
  obtain ⟨p, o, rfl, l, ro, mo⟩ := r1
  obtain ⟨R2, xf⟩ := R1.adoptFz l
  split at h1
  · exact h1.elim
  · exact h1 ρ1 _ _ H1 (rfP ρ1) xf (R2.setFz (ro.rep l.f))
end
/-! ### worked out -/
theorem lcX_all {α : Type} {g : D → S → Option S} {mt : MT} {me : ME} {vs : List Nat} (f h : α → D) (s : S) : ∀ (xs : List α) (acc : List D), acc.length + xs.length ≤ PySem.sizeLine →
    (∀ x ∈ xs, ∃ s2 s3 s4, g (f x) s = some s2 ∧ mt s2 = .ok true s3 ∧ me s3 = .ok (h x) s4 ∧ isSlot (h x) = false ∧ wipeS vs s4 = s) → lcX g mt me vs (xs.map f) acc s = .ok (acc ++ xs.map h) s
  | [], acc, _, _ => by simp [lcX]
  | x :: xs, acc, hl, k => by
    obtain ⟨s2, s3, s4, e1, e2, e3, e4, e5⟩ := k x List.mem_cons_self
    simp only [List.length_cons] at hl
    have ih := lcX_all (g := g) (mt := mt) (me := me) (vs := vs) f h s xs (acc ++ [h x]) (by simp; omega) fun y hy => k y (List.mem_cons_of_mem _ hy)
    simp only [List.map_cons, lcX, e1, e2, e3]
    rw [if_pos ⟨e4, by omega⟩, e5, ih]
    simp
/-- each item is taken or raises: the first that raises -/
theorem lcX_or {α : Type} {g : D → S → Option S} {mt : MT} {me : ME} {vs : List Nat} (f h : α → D) (p : α → Bool) (e : Xn) (s : S) : ∀ (xs : List α) (acc : List D), acc.length + xs.length ≤ PySem.sizeLine →
    (∀ x ∈ xs, ∃ s2 s3 s4, g (f x) s = some s2 ∧ mt s2 = .ok true s3 ∧ (if p x = true then me s3 = .ok (h x) s4 else me s3 = .exc e s4) ∧ isSlot (h x) = false ∧ wipeS vs s4 = s) →
    lcX g mt me vs (xs.map f) acc s = if xs.all p = true then .ok (acc ++ xs.map h) s else .exc e s
  | [], acc, _, _ => by simp [lcX]
  | x :: xs, acc, hl, k => by
    obtain ⟨s2, s3, s4, e1, e2, e3, e4, e5⟩ := k x List.mem_cons_self
    simp only [List.length_cons] at hl
    have ih := lcX_or (g := g) (mt := mt) (me := me) (vs := vs) f h p e s xs (acc ++ [h x]) (by simp; omega) fun y hy => k y (List.mem_cons_of_mem _ hy)
    cases hp : p x with
    | true =>
      rw [hp, if_pos rfl] at e3
      simp only [List.map_cons, lcX, e1, e2, e3]
      rw [if_pos ⟨e4, by omega⟩, e5, ih]
      simp [hp]
    | false =>
      rw [hp, if_neg Bool.false_ne_true] at e3
      simp only [List.map_cons, lcX, e1, e2, e3]
      rw [e5]
      simp [hp]
end ML
end
section
set_option Elab.async false
set_option linter.all false
set_option maxRecDepth 100000
set_option autoImplicit false
/-! ML22: text * 0 or 1, text.index. -/
namespace ML
open PySem PySem.Spec PyProof.Rows L2
section
variable {C : Ctx} {X : Cx} {W : WX} {pos p p2 apos cpos : Pos}
theorem mulOk_small {z : Str} {k : Int} (h0 : 0 ≤ k) (h1 : k ≤ 1) : PySem.MulOk z k := by
  have e : k = 0 ∨ k = 1 := by omega
  rcases e with rfl | rfl
  · exact ⟨by decide, fun z => absurd (by decide) z, fun z => absurd (by decide) z⟩
  · exact ⟨by decide, fun _ z => by simp at z, fun _ z => by simp at z⟩
theorem mul_small {z : Str} {k : Int} (h0 : 0 ≤ k) (h1 : k ≤ 1) : PySem.Txt.mul z k = if k = 1 then z else ⟨#[]⟩ := by
  have e : k = 0 ∨ k = 1 := by omega
  rcases e with rfl | rfl
  · rfl
  · unfold PySem.Txt.mul
    simp
theorem op_mulS : OpR X (binaryOp .Mult) (fun x y H Q => ∃ z k, x = .str z ∧ y = .int k ∧ (0 ≤ k ∧ k ≤ 1) ∧ Q (.str (if k = 1 then z else ⟨#[]⟩)) H) := by
  intro pins s σ H x y v u Q I rx ry h
  obtain ⟨z, k, rfl, rfl, hk, q⟩ := h
  obtain ⟨t, rfl⟩ := rx
  obtain ⟨t2, rfl⟩ := ry
  refine PySem.SB.mul (mulOk_small hk.1 hk.2) fun t' k' => ?_
  rw [mul_small hk.1 hk.2]
  exact ⟨.str _, H, I.tok _, ⟨_, rfl⟩, q⟩
theorem sem_mulS : SemB C (fun x y H Q => ∃ z k, x = .str z ∧ y = .int k ∧ (0 ≤ k ∧ k ≤ 1) ∧ Q (.str (if k = 1 then z else ⟨#[]⟩)) H) mulS := by
  intro ρ F H c1 c2 d x y Q xf v1 v2 e k
  unfold mulS at e
  split at e
  · split at e
    · next h =>
      cases e
      cases vw_str v1
      exact ⟨_, _, rfl, vw_int v2, h, nowV k rfl⟩
    · cases e
  · cases e
theorem re_mulS {a b : Expr} {ma mb : ME} (ha : RE C X W a ma) (hb : RE C X W b mb) : RE C X W (.BinOp a .Mult b pos) (mOp mulS ma mb) := re_op op_mulS sem_mulS ha hb
def indexD : D → List D → Option D
  | .str a, [.str b] => match Builtin.Str.occurrences a b 0 a.length 1 with
    | i :: _ => some (.int (i : Nat))
    | [] => none
  | _, _ => none
theorem sem_index : SemM C (fun x xs H Q => ∃ a b i rest, x = .str a ∧ xs = [.str b] ∧ Builtin.Str.occurrences a b 0 a.length 1 = i :: rest ∧ Q (.int (i : Nat)) H) indexD := by
  intro ρ F H c cs d x vs Q xf v1 v2 e k
  unfold indexD at e
  split at e
  · split at e
    · next a b i rest hz =>
      cases e
      cases vw_str v1
      obtain ⟨v', rfl, h⟩ := vwL1 v2
      cases vw_str h
      exact ⟨_, _, _, _, rfl, rfl, hz, nowV k rfl⟩
    · cases e
  · cases e
theorem k_index {o e : Expr} {mo : ME} {ma : MA} (ho : RE C X W o mo) (ha : RA C X W [e] ma) (hbase : attributeBase o "index" X.env (eval o X.env) = eval o X.env := by rfl) (hst : starEach [e] X.env = (false, eval e X.env) :: starEach [] X.env := by rfl) (hline : (apos.endLine == cpos.line) = true := by rfl)
    (hfew : ((backTo cpos (starEach [e] X.env)).all (fun x => !x.1) && (backToKw cpos (keywordEach [] X.env)).all (fun x => x.1.isSome) && decide (([e] : List Expr).length + ([] : List Keyword).length + (if ([] : List Keyword).isEmpty then 0 else 1) < 30)) = true := by rfl) :
    RE C X W (.Call (.Attribute o "index" apos) [e] [] cpos) (mMeth "str" indexD mo ma) := re_meth F.plainAttrs_str F.slot_str_index F.type_str_index mt_sindex sem_index ho ha hbase hfew hline hst rfl
end
end ML
end
section
set_option Elab.async false
set_option linter.all false
set_option maxRecDepth 100000
set_option autoImplicit false
/-! K85: what each def does, as an m-term (printed by emit.gen.py). -/
namespace K85
open PySem PySem.Spec PyProof.Rows L2 ML
/-- is_whole: slots 0 thing -/
noncomputable def b_is_whole : MS := (mRet (mAndV (mIsi "int" (mVar 0)) (mNotV (mIsi "bool" (mVar 0)))))
noncomputable def m_is_whole : PF := runF 1 b_is_whole
/-- rounds_up: slots 0 top, 1 bottom, 2 whole, 3 rest -/
noncomputable def b_rounds_up : MS := (mSeq (mAsg (gTp 2 (gsCons (gNm 2) (gsCons (gNm 3) gsNil))) (mCB divmodD (mCons (mVar 0) (mCons (mVar 1) mNil)))) (mSeq (mIf (mTest (mOp gtD (mVar 3) (mC (.int 0)))) (mAug (fun a b => a + b) 2 (mC (.int 1))) mSkip) (mRet (mVar 2))))
noncomputable def m_rounds_up : PF := runF 4 b_rounds_up
noncomputable def b_is_name_1 : MS := (mIf (mTest (mOp (inD true) (mVar 1) (mC (.str "abcdefghijklmnopqrstuvwxyz")))) (mRet (mC (.bl false))) mSkip)
/-- is_name: slots 0 thing, 1 sign -/
noncomputable def b_is_name : MS := (mSeq (mIf (mOr (mNot (mTest (mIsi "str" (mVar 0)))) (mNot (mTest (mChain leD leD (mC (.int 1)) (mCB lenD (mCons (mVar 0) mNil)) (mC (.int 8)))))) (mRet (mC (.bl false))) mSkip) (mSeq (mFor (mIter (mVar 0)) (gNm 1) b_is_name_1) (mRet (mC (.bl true)))))
noncomputable def m_is_name : PF := runF 2 b_is_name
/-- from_on: slots 0 thing, 1 low -/
noncomputable def b_from_on : MS := (mRet (mAndV (mCall0 m_is_whole [] (mCons (mVar 0) mNil)) (mOp geD (mVar 0) (mVar 1))))
noncomputable def m_from_on : PF := runF 2 b_from_on
/-- is_hold: slots 0 thing, 1 length -/
noncomputable def b_is_hold : MS := (mSeq (mIf (mOr (mNot (mTest (mIsi "tuple" (mVar 0)))) (mTest (mOp neD (mCB lenD (mCons (mVar 0) mNil)) (mC (.int 3))))) (mRet (mC (.bl false))) mSkip) (mSeq (mIf (mOr (mNot (mTest (mCall0 m_is_name [] (mCons (mOp ixD (mVar 0) (mC (.int 0))) mNil)))) (mOr (mNot (mTest (mCall0 m_is_whole [] (mCons (mOp ixD (mVar 0) (mC (.int 1))) mNil)))) (mNot (mTest (mCall0 m_is_whole [] (mCons (mOp ixD (mVar 0) (mC (.int 2))) mNil)))))) (mRet (mC (.bl false))) mSkip) (mRet (mChain3 leD ltD ltD (mC (.int 0)) (mOp ixD (mVar 0) (mC (.int 1))) (mOp ixD (mVar 0) (mC (.int 2))) (mVar 1)))))
noncomputable def m_is_hold : PF := runF 2 b_is_hold
/-- within: slots 0 one, 1 other -/
noncomputable def b_within : MS := (mRet (mAndV (mOp leD (mOp ixD (mVar 1) (mC (.int 1))) (mOp ixD (mVar 0) (mC (.int 1)))) (mOp leD (mOp ixD (mVar 0) (mC (.int 2))) (mOp ixD (mVar 1) (mC (.int 2))))))
noncomputable def m_within : PF := runF 2 b_within
/-- together: slots 0 one, 1 other -/
noncomputable def b_together : MS := (mSeq (mIf (mOr (mTest (mOp leD (mOp ixD (mVar 0) (mC (.int 2))) (mOp ixD (mVar 1) (mC (.int 1))))) (mTest (mOp leD (mOp ixD (mVar 1) (mC (.int 2))) (mOp ixD (mVar 0) (mC (.int 1)))))) (mRet (mC (.bl true))) mSkip) (mSeq (mIf (mTest (mOp eqD (mOp ixD (mVar 0) (mC (.int 0))) (mOp ixD (mVar 1) (mC (.int 0))))) (mRet (mC (.bl false))) mSkip) (mRet (mOrV (mCall0 m_within [] (mCons (mVar 0) (mCons (mVar 1) mNil))) (mCall0 m_within [] (mCons (mVar 1) (mCons (mVar 0) mNil)))))))
noncomputable def m_together : PF := runF 2 b_together
noncomputable def b_holds_fit_2 : MS := (mIf (mNot (mTest (mCall0 m_together [] (mCons (mVar 3) (mCons (mOp ixD (mVar 0) (mVar 2)) mNil))))) (mRet (mC (.bl false))) mSkip)
noncomputable def b_holds_fit_1 : MS := (mSeq (mIf (mNot (mTest (mCall0 m_is_hold [] (mCons (mOp ixD (mVar 0) (mVar 2)) (mCons (mVar 1) mNil))))) (mRet (mC (.bl false))) mSkip) (mFor (mIter (mSl slL (mVar 0) mNoPart (mPart (mVar 2)))) (gNm 3) b_holds_fit_2))
/-- holds_fit: slots 0 holds, 1 length, 2 k, 3 hold -/
noncomputable def b_holds_fit : MS := (mSeq (mIf (mOr (mNot (mTest (mIsi "list" (mVar 0)))) (mTest (mOp gtD (mCB lenD (mCons (mVar 0) mNil)) (mC (.int 6))))) (mRet (mC (.bl false))) mSkip) (mSeq (mFor (mRange1 (mCons (mCB lenD (mCons (mVar 0) mNil)) mNil)) (gNm 2) b_holds_fit_1) (mRet (mC (.bl true)))))
noncomputable def m_holds_fit : PF := runF 4 b_holds_fit
/-- Work.__init__: slots 0 self, 1 name, 2 gap, 3 length, 4 due, 5 late, 6 holds -/
noncomputable def b_Work_new : MS := (mSeq (mIf (mTest (mOp isN (mVar 4) (mC .non))) (mSet 4 (mVar 2)) mSkip) (mSeq (mIf (mTest (mOp isN (mVar 6) (mC .non))) (mSet 6 (mDisp .lst mNil)) mSkip) (mSeq (mIf (mOr (mNot (mTest (mCall0 m_is_name [] (mCons (mVar 1) mNil)))) (mOr (mNot (mTest (mCall0 m_from_on [] (mCons (mVar 2) (mCons (mC (.int 1)) mNil))))) (mNot (mTest (mCall0 m_from_on [] (mCons (mVar 3) (mCons (mC (.int 1)) mNil))))))) (mRaise 0) mSkip) (mSeq (mIf (mOr (mNot (mTest (mCall0 m_from_on [] (mCons (mVar 4) (mCons (mC (.int 1)) mNil))))) (mOr (mTest (mOp gtD (mVar 4) (mVar 2))) (mNot (mTest (mCall0 m_from_on [] (mCons (mVar 5) (mCons (mC (.int 0)) mNil))))))) (mRaise 0) mSkip) (mSeq (mIf (mNot (mTest (mCall0 m_holds_fit [] (mCons (mVar 6) (mCons (mVar 3) mNil))))) (mRaise 0) mSkip) (mSeq (mPutF [6] "name" (mVar 0) (mVar 1)) (mSeq (mPutF [6] "gap" (mVar 0) (mVar 2)) (mSeq (mPutF [6] "length" (mVar 0) (mVar 3)) (mSeq (mPutF [6] "due" (mVar 0) (mVar 4)) (mSeq (mPutF [6] "late" (mVar 0) (mVar 5)) (mPutF [6] "sections" (mVar 0) (mCB listD (mCons (mVar 6) mNil)))))))))))))
noncomputable def m_Work_new : PF := runF 7 b_Work_new
/-- Work.held: slots 0 self -/
noncomputable def b_Work_held : MS := (mRet (mCB listD (mCons (mFld [6] "sections" (mVar 0)) mNil)))
noncomputable def m_Work_held : PF := runF 1 b_Work_held
/-- made_again: slots 0 work -/
noncomputable def b_made_again : MS := (mRet (mMake0 6 m_Work_new [] (mCons (mFld [6] "name" (mVar 0)) (mCons (mFld [6] "gap" (mVar 0)) (mCons (mFld [6] "length" (mVar 0)) (mCons (mFld [6] "due" (mVar 0)) (mCons (mFld [6] "late" (mVar 0)) (mCons (mOwn 6 "held" (methR m_Work_held []) (mVar 0) mNil) mNil))))))))
noncomputable def m_made_again : PF := runF 1 b_made_again
noncomputable def b_Duty_crowd_1 : MS := (mAug (fun a b => a + b) 2 (mCall0 m_rounds_up [] (mCons (mOp addD (mVar 1) (mFld [6] "late" (mVar 3))) (mCons (mFld [6] "gap" (mVar 3)) mNil))))
/-- Duty.crowd: slots 0 self, 1 greatest, 2 many, 3 one -/
noncomputable def b_Duty_crowd : MS := (mSeq (mSet 1 (mMaxDf (mLc (mIter (mFld [7] "works" (mVar 0))) (gNm 3) mYes (mFld [6] "due" (mVar 3)) [3]) (mC (.int 0)))) (mSeq (mSet 2 (mC (.int 0))) (mSeq (mFor (mIter (mFld [7] "works" (mVar 0))) (gNm 3) b_Duty_crowd_1) (mRet (mVar 2)))))
noncomputable def m_Duty_crowd : PF := runF 4 b_Duty_crowd
noncomputable def b_Duty_new_1 : MS := (mSeq (mIf (mOr (mNot (mTest (mIsK [6] (mOp ixD (mVar 1) (mVar 2))))) (mTest (mOp (inD false) (mFld [6] "name" (mOp ixD (mVar 1) (mVar 2))) (mFld [7] "numbers" (mVar 0))))) (mRaise 1) mSkip) (mSetKey (mFld [7] "numbers" (mVar 0)) (mFld [6] "name" (mOp ixD (mVar 1) (mVar 2))) (mVar 2)))
/-- Duty.__init__: slots 0 self, 1 works, 2 at, 3 one -/
noncomputable def b_Duty_new : MS := (mSeq (mIf (mNot (mTest (mIsi "list" (mVar 1)))) (mRaise 1) mSkip) (mSeq (mPutF [7] "numbers" (mVar 0) (mCell (mC (.dct [] [])))) (mSeq (mFor (mRange1 (mCons (mCB lenD (mCons (mVar 1) mNil)) mNil)) (gNm 2) b_Duty_new_1) (mSeq (mPutF [7] "works" (mVar 0) (mLc (mIter (mVar 1)) (gNm 3) mYes (mCall0 m_made_again [] (mCons (mVar 3) mNil)) [3])) (mIf (mOr (mTest (mOp gtD (mCB lenD (mCons (mVar 1) mNil)) (mC (.int 12)))) (mTest (mOp gtD (mOwn 7 "crowd" (methC m_Duty_crowd []) (mVar 0) mNil) (mC (.int 80))))) (mRaise 2) mSkip)))))
noncomputable def m_Duty_new : PF := runF 4 b_Duty_new
/-- Duty.size: slots 0 self -/
noncomputable def b_Duty_size : MS := (mRet (mCB lenD (mCons (mFld [7] "works" (mVar 0)) mNil)))
noncomputable def m_Duty_size : PF := runF 1 b_Duty_size
/-- Duty.work: slots 0 self, 1 at -/
noncomputable def b_Duty_work : MS := (mRet (mOp ixD (mFld [7] "works" (mVar 0)) (mVar 1)))
noncomputable def m_Duty_work : PF := runF 2 b_Duty_work
noncomputable def b_is_number_1 : MS := (mIf (mTest (mOp (inD true) (mVar 1) (mC (.str "0123456789")))) (mRet (mC (.bl false))) mSkip)
/-- is_number: slots 0 word, 1 sign -/
noncomputable def b_is_number : MS := (mSeq (mIf (mNot (mTest (mChain leD leD (mC (.int 1)) (mCB lenD (mCons (mVar 0) mNil)) (mC (.int 60))))) (mRet (mC (.bl false))) mSkip) (mSeq (mFor (mIter (mVar 0)) (gNm 1) b_is_number_1) (mRet (mOrV (mOp eqD (mVar 0) (mC (.str "0"))) (mNotV (mMeth "str" startsD (mVar 0) (mCons (mC (.str "0")) mNil)))))))
noncomputable def m_is_number : PF := runF 2 b_is_number
/-- number_in: slots 0 word -/
noncomputable def b_number_in : MS := (mSeq (mIf (mNot (mTest (mCall0 m_is_number [] (mCons (mVar 0) mNil)))) (mRaise 3) mSkip) (mRet (mCB intD (mCons (mVar 0) mNil))))
noncomputable def m_number_in : PF := runF 1 b_number_in
/-- words_of: slots 0 text -/
noncomputable def b_words_of : MS := (mSeq (mIf (mNot (mTest (mIsi "str" (mVar 0)))) (mRaise 3) mSkip) (mRet (mMeth "str" splitD (mVar 0) (mCons (mC (.str " ")) mNil))))
noncomputable def m_words_of : PF := runF 1 b_words_of
/-- show_hold: slots 0 hold -/
noncomputable def b_show_hold : MS := (mRet (mOp addD (mOp addD (mOp addD (mOp addD (mOp ixD (mVar 0) (mC (.int 0))) (mC (.str ":"))) (mCB strD (mCons (mOp ixD (mVar 0) (mC (.int 1))) mNil))) (mC (.str "-"))) (mCB strD (mCons (mOp ixD (mVar 0) (mC (.int 2))) mNil))))
noncomputable def m_show_hold : PF := runF 1 b_show_hold
/-- read_hold: slots 0 word, 1 thing, 2 colon, 3 turns, 4 start, 5 dash, 6 end -/
noncomputable def b_read_hold : MS := (mSeq (mAsg (gTp 3 (gsCons (gNm 1) (gsCons (gNm 2) (gsCons (gNm 3) gsNil)))) (mMeth "str" partD (mVar 0) (mCons (mC (.str ":")) mNil))) (mSeq (mAsg (gTp 3 (gsCons (gNm 4) (gsCons (gNm 5) (gsCons (gNm 6) gsNil)))) (mMeth "str" partD (mVar 3) (mCons (mC (.str "-")) mNil))) (mRet (mDisp .tup (mCons (mVar 1) (mCons (mCall0 m_number_in [] (mCons (mVar 4) mNil)) (mCons (mCall0 m_number_in [] (mCons (mVar 6) mNil)) mNil)))))))
noncomputable def m_read_hold : PF := runF 7 b_read_hold
noncomputable def b_show_work_1 : MS := (mDrop (mMut "list" appendU (mVar 1) (mCons (mCB strD (mCons (mVar 2) mNil)) mNil)))
/-- show_work: slots 0 work, 1 words, 2 number, 3 hold -/
noncomputable def b_show_work : MS := (mSeq (mSetOw 1 (mDisp .lst (mCons (mFld [6] "name" (mVar 0)) mNil))) (mSeq (mFor (mIter (mDisp .lst (mCons (mFld [6] "gap" (mVar 0)) (mCons (mFld [6] "length" (mVar 0)) (mCons (mFld [6] "due" (mVar 0)) (mCons (mFld [6] "late" (mVar 0)) mNil)))))) (gNm 2) b_show_work_1) (mRet (mMeth "str" joinD (mC (.str " ")) (mCons (mOp addD (mVar 1) (mLc (mIter (mOwn 6 "held" (methR m_Work_held []) (mVar 0) mNil)) (gNm 3) mYes (mCall0 m_show_hold [] (mCons (mVar 3) mNil)) [3])) mNil)))))
noncomputable def m_show_work : PF := runF 4 b_show_work
/-- read_work: slots 0 text, 1 words, 2 holds, 3 gap, 4 length, 5 due, 6 late, 7 word -/
noncomputable def b_read_work : MS := (mSeq (mSet 1 (mCall0 m_words_of [] (mCons (mVar 0) mNil))) (mSeq (mIf (mTest (mOp ltD (mCB lenD (mCons (mVar 1) mNil)) (mC (.int 5)))) (mRaise 3) mSkip) (mSeq (mAsg (gLs 4 (gsCons (gNm 3) (gsCons (gNm 4) (gsCons (gNm 5) (gsCons (gNm 6) gsNil))))) (mLcX (mIter (mSl slL (mVar 1) (mPart (mC (.int 1))) (mPart (mC (.int 5))))) (gNm 7) mYes (mCall0 m_number_in [] (mCons (mVar 7) mNil)) [7])) (mSeq (mSet 2 (mLcX (mIter (mSl slL (mVar 1) (mPart (mC (.int 5))) mNoPart)) (gNm 7) mYes (mCall0 m_read_hold [] (mCons (mVar 7) mNil)) [7])) (mRet (mMake0 6 m_Work_new [] (mCons (mOp ixD (mVar 1) (mC (.int 0))) (mCons (mVar 3) (mCons (mVar 4) (mCons (mVar 5) (mCons (mVar 6) (mCons (mVar 2) mNil))))))))))))
noncomputable def m_read_work : PF := runF 8 b_read_work
/-- works_of: slots 0 duty, 1 at -/
noncomputable def b_works_of : MS := (mRet (mLc (mRange1 (mCons (mOwn 7 "size" (methR m_Duty_size []) (mVar 0) mNil) mNil)) (gNm 1) mYes (mOwn 7 "work" (methR m_Duty_work []) (mVar 0) (mCons (mVar 1) mNil)) [1]))
noncomputable def m_works_of : PF := runF 2 b_works_of
/-- with_work: slots 0 duty, 1 text -/
noncomputable def b_with_work : MS := (mRet (mMake0 7 m_Duty_new [] (mCons (mOp addD (mCall0 m_works_of [] (mCons (mVar 0) mNil)) (mDisp .lst (mCons (mCall0 m_read_work [] (mCons (mVar 1) mNil)) mNil))) mNil)))
noncomputable def m_with_work : PF := runF 2 b_with_work
/-- said: slots 0 duty, 1 word, 2 blank, 3 rest, 4 work, 5 at -/
noncomputable def b_said : MS := (mSeq (mIf (mTest (mOp eqD (mVar 2) (mC (.str "")))) (mSeq (mIf (mTest (mOp eqD (mVar 1) (mC (.str "show")))) (mRet (mMeth "str" joinD (mC (.str "; ")) (mCons (mLc (mIter (mCall0 m_works_of [] (mCons (mVar 0) mNil))) (gNm 4) mYes (mCall0 m_show_work [] (mCons (mVar 4) mNil)) [4]) mNil))) mSkip) (mSeq (mIf (mTest (mOp eqD (mVar 1) (mC (.str "find")))) mNo mSkip) (mRaise 4))) mSkip) (mSeq (mIf (mOr (mTest (mOp eqD (mVar 1) (mC (.str "run")))) (mTest (mOp eqD (mVar 1) (mC (.str "missed"))))) mNo mSkip) (mSeq (mIf (mTest (mOp eqD (mVar 1) (mC (.str "full")))) mNo mSkip) (mSeq (mIf (mTest (mOp (inD false) (mC (.str " ")) (mVar 3))) (mRaise 4) mSkip) mNo))))
noncomputable def m_said : PF := runF 6 b_said
/-- Desk.__init__: slots 0 self -/
noncomputable def b_Desk_new : MS := (mPutF [8] "duty" (mVar 0) (mMake0 7 m_Duty_new [] (mCons (mDisp .lst mNil) mNil)))
noncomputable def m_Desk_new : PF := runF 1 b_Desk_new
/-- Desk.say: slots 0 self, 1 line, 2 word, 3 blank, 4 rest, 5 names -/
noncomputable def b_Desk_say : MS := (mSeq (mIf (mNot (mTest (mIsi "str" (mVar 1)))) (mRaise 4) mSkip) (mSeq (mAsg (gTp 3 (gsCons (gNm 2) (gsCons (gNm 3) (gsCons (gNm 4) gsNil)))) (mMeth "str" partD (mVar 1) (mCons (mC (.str " ")) mNil))) (mSeq (mIf (mAnd (mTest (mOp eqD (mVar 2) (mC (.str "work")))) (mTest (mOp eqD (mVar 3) (mC (.str " "))))) (mSeq (mPutF [8] "duty" (mVar 0) (mCall0 m_with_work [] (mCons (mFld [8] "duty" (mVar 0)) (mCons (mVar 4) mNil)))) (mRet (mC (.str "ok")))) mSkip) (mSeq (mIf (mAnd (mTest (mOp eqD (mVar 2) (mC (.str "drop")))) (mAnd (mTest (mOp eqD (mVar 3) (mC (.str " ")))) (mTest (mOp (inD true) (mC (.str " ")) (mVar 4))))) (mSeq mNo (mRet (mC (.str "ok")))) mSkip) (mSeq (mIf (mTest (mOp eqD (mVar 2) (mC (.str "rank")))) (mSeq mNo (mSeq mNo (mSeq mNo (mRet (mC (.str "ok")))))) mSkip) (mRet (mCall0 m_said [] (mCons (mFld [8] "duty" (mVar 0)) (mCons (mVar 2) (mCons (mVar 3) (mCons (mVar 4) mNil)))))))))))
noncomputable def m_Desk_say : PF := runF 6 b_Desk_say
/-- _law_cell_at: slots 0 script, 1 k -/
noncomputable def b_l_law_cell_at : MS := (mSeq (mIf (mTest (mOp ltD (mVar 1) (mCB lenD (mCons (mVar 0) mNil)))) (mRet (mOp ixD (mVar 0) (mVar 1))) mSkip) (mRet (mC (.int 0))))
noncomputable def m_l_law_cell_at : PF := runF 2 b_l_law_cell_at
/-- _law_well: slots 0 cell -/
noncomputable def b_l_law_well : MS := (mRet (mCell (mDisp .lst (mCons (mOp mulD (mVar 0) (mCB intD (mCons (mOp geD (mVar 0) (mOp powI (mC (.int 10)) (mC (.int 18)))) mNil))) (mCons (mOp modI (mVar 0) (mC (.int 2147483647))) (mCons (mC (.int 0)) mNil))))))
noncomputable def m_l_law_well : PF := runF 1 b_l_law_well
/-- _law_draw: slots 0 well, 1 many, 2 number, 3 found -/
noncomputable def b_l_law_draw : MS := (mSeq (mIf (mTest (mOp gtD (mOp ixD (mVar 0) (mC (.int 0))) (mC (.int 0)))) (mSeq (mSet 3 (mOp modI (mOp ixD (mVar 0) (mC (.int 0))) (mVar 1))) (mSeq (mSetIx (mVar 0) (mC (.int 0)) (mOp fdivI (mOp ixD (mVar 0) (mC (.int 0))) (mVar 1))) (mRet (mVar 3)))) mSkip) (mSeq (mSetIx (mVar 0) (mC (.int 2)) (mOp addD (mOp ixD (mVar 0) (mC (.int 2))) (mC (.int 1)))) (mSeq (mSet 2 (mOp modI (mOp powI (mOp addD (mOp addD (mOp ixD (mVar 0) (mC (.int 1))) (mOp mulD (mC (.int 7919)) (mOp ixD (mVar 0) (mC (.int 2))))) (mC (.int 1))) (mC (.int 3))) (mC (.int 2147483647)))) (mSeq (mSet 2 (mOp modI (mOp mulD (mVar 2) (mOp addD (mOp fdivI (mVar 2) (mC (.int 1009))) (mC (.int 69621)))) (mC (.int 2147483629)))) (mRet (mOp modI (mOp modI (mOp mulD (mVar 2) (mOp addD (mOp fdivI (mVar 2) (mC (.int 2003))) (mC (.int 40692)))) (mC (.int 2147483587))) (mVar 1)))))))
noncomputable def m_l_law_draw : PF := runF 4 b_l_law_draw
/-- _law_sign: slots 0 number, 1 signs -/
noncomputable def b_l_law_sign : MS := (mSeq (mSet 1 (mC (.str " !\"#$&'()*+,-./0123456789:;<=>?@ABCDEFGHIJKLMNOPQRSTUVWXYZ[\\]^_`"))) (mRet (mOp ixD (mOp addD (mVar 1) (mC (.str "abcdefghijklmnopqrstuvwxyz{|}~\t\n"))) (mOp modI (mVar 0) (mC (.int 96))))))
noncomputable def m_l_law_sign : PF := runF 2 b_l_law_sign
noncomputable def b_l_law_text_1 : MS := (mSeq (mSet 3 (mOp ixD (mDisp .lst (mCons (mC (.str "ink")) (mCons (mC (.str "b")) (mCons (mC (.str "ovenoven")) (mCons (mC (.str "in")) mNil))))) (mCall m_l_law_draw [] (mCons (mVar 0) (mCons (mC (.int 4)) mNil))))) (mDrop (mMut "list" appendU (mVar 1) (mCons (mOp addD (mOp addD (mOp addD (mOp addD (mVar 3) (mC (.str ":"))) (mCB strD (mCons (mOp mulD (mC (.int 4)) (mVar 2)) mNil))) (mC (.str "-"))) (mCB strD (mCons (mOp addD (mOp addD (mOp mulD (mC (.int 4)) (mVar 2)) (mC (.int 1))) (mCall m_l_law_draw [] (mCons (mVar 0) (mCons (mC (.int 4)) mNil)))) mNil))) mNil))))
/-- _law_text: slots 0 well, 1 words, 2 k, 3 thing -/
noncomputable def b_l_law_text : MS := (mSeq (mSetOw 1 (mDisp .lst (mCons (mOp ixD (mDisp .lst (mCons (mC (.str "a")) (mCons (mC (.str "press")) (mCons (mC (.str "abcdefgh")) (mCons (mC (.str "wash")) mNil))))) (mCall m_l_law_draw [] (mCons (mVar 0) (mCons (mC (.int 4)) mNil)))) (mCons (mC (.str "60")) (mCons (mC (.str "30")) (mCons (mC (.str "50")) (mCons (mCB strD (mCons (mCall m_l_law_draw [] (mCons (mVar 0) (mCons (mC (.int 12)) mNil))) mNil)) mNil))))))) (mSeq (mFor (mRange1 (mCons (mCall m_l_law_draw [] (mCons (mVar 0) (mCons (mC (.int 7)) mNil))) mNil)) (gNm 2) b_l_law_text_1) (mRet (mMeth "str" joinD (mC (.str " ")) (mCons (mVar 1) mNil)))))
noncomputable def m_l_law_text : PF := runF 4 b_l_law_text
noncomputable def b_l_law_spoilt_1 : MS := (mSeq (mSet 3 (mMeth "str" indexD (mOp addD (mVar 1) (mC (.str " "))) (mCons (mC (.str " ")) mNil))) (mSeq (mSet 4 (mMeth "str" indexD (mOp addD (mVar 1) (mC (.str ":"))) (mCons (mC (.str ":")) mNil))) (mSeq (mSetOw 5 (mDisp .lst (mCons (mC (.int 0)) (mCons (mVar 3) (mCons (mCall m_l_law_draw [] (mCons (mVar 0) (mCons (mOp addD (mVar 3) (mC (.int 1))) mNil))) (mCons (mVar 4) (mCons (mCB max2D (mCons (mC (.int 0)) (mCons (mOp subI (mVar 4) (mC (.int 3))) mNil))) (mCons (mCB lenD (mCons (mVar 1) mNil)) mNil)))))))) (mSeq (mDrop (mMut "list" appendU (mVar 5) (mCons (mCall m_l_law_draw [] (mCons (mVar 0) (mCons (mOp addD (mCB lenD (mCons (mVar 1) mNil)) (mC (.int 1))) mNil))) mNil))) (mSeq (mSet 6 (mCB min2D (mCons (mCB lenD (mCons (mVar 1) mNil)) (mCons (mOp ixD (mVar 5) (mCall m_l_law_draw [] (mCons (mVar 0) (mCons (mC (.int 7)) mNil)))) mNil)))) (mSeq (mSet 7 (mCall0 m_l_law_sign [] (mCons (mCall m_l_law_draw [] (mCons (mVar 0) (mCons (mC (.int 96)) mNil))) mNil))) (mSeq (mIf (mTest (mOp eqD (mCall m_l_law_draw [] (mCons (mVar 0) (mCons (mC (.int 2)) mNil))) (mC (.int 0)))) (mSet 7 (mOp ixD (mDisp .lst (mCons (mC (.str "\t")) (mCons (mC (.str "\n")) (mCons (mC (.str " ")) (mCons (mC (.str "A")) (mCons (mC (.str "1")) mNil)))))) (mCall m_l_law_draw [] (mCons (mVar 0) (mCons (mC (.int 5)) mNil))))) mSkip) (mSeq (mSet 8 (mCall m_l_law_draw [] (mCons (mVar 0) (mCons (mC (.int 3)) mNil)))) (mSeq (mSet 9 (mSl slS (mVar 1) (mPart (mOp addD (mVar 6) (mCB intD (mCons (mOp gtD (mVar 8) (mC (.int 0))) mNil)))) mNoPart)) (mSet 1 (mOp addD (mOp addD (mSl slS (mVar 1) mNoPart (mPart (mVar 6))) (mOp mulS (mVar 7) (mCB intD (mCons (mOp ltD (mVar 8) (mC (.int 2))) mNil)))) (mVar 9))))))))))))
/-- _law_spoilt: slots 0 well, 1 text, 2 k, 3 blank, 4 colon, 5 at, 6 place, 7 sign, 8 way, 9 rest -/
noncomputable def b_l_law_spoilt : MS := (mSeq (mFor (mRange1 (mCons (mOp addD (mC (.int 1)) (mCall m_l_law_draw [] (mCons (mVar 0) (mCons (mC (.int 3)) mNil)))) mNil)) (gNm 2) b_l_law_spoilt_1) (mRet (mVar 1)))
noncomputable def m_l_law_spoilt : PF := runF 10 b_l_law_spoilt
/-- _law_name: slots 0 word, 1 sign -/
noncomputable def b_l_law_name : MS := (mRet (mAndV (mChain leD leD (mC (.int 1)) (mCB lenD (mCons (mVar 0) mNil)) (mC (.int 8))) (mOp (inD true) (mC (.bl false)) (mLc (mIter (mVar 0)) (gNm 1) mYes (mChain leD leD (mC (.str "a")) (mVar 1) (mC (.str "z"))) [1]))))
noncomputable def m_l_law_name : PF := runF 2 b_l_law_name
/-- _law_number: slots 0 word, 1 sign -/
noncomputable def b_l_law_number : MS := (mSeq (mIf (mOr (mNot (mTest (mChain leD leD (mC (.int 1)) (mCB lenD (mCons (mVar 0) mNil)) (mC (.int 60))))) (mTest (mOp neD (mLc (mIter (mVar 0)) (gNm 1) (mTest (mOp (inD true) (mVar 1) (mC (.str "0123456789")))) (mVar 1) [1]) (mDisp .lst mNil)))) (mRet (mC .non)) mSkip) (mSeq (mIf (mAnd (mTest (mOp eqD (mOp ixD (mVar 0) (mC (.int 0))) (mC (.str "0")))) (mTest (mOp neD (mVar 0) (mC (.str "0"))))) (mRet (mC .non)) mSkip) (mRet (mCB intD (mCons (mVar 0) mNil)))))
noncomputable def m_l_law_number : PF := runF 2 b_l_law_number
/-- _law_fit: slots 0 one, 1 other, 2 apart, 3 inside -/
noncomputable def b_l_law_fit : MS := (mSeq (mSet 2 (mOrV (mOp leD (mOp ixD (mVar 0) (mC (.int 2))) (mOp ixD (mVar 1) (mC (.int 1)))) (mOp leD (mOp ixD (mVar 1) (mC (.int 2))) (mOp ixD (mVar 0) (mC (.int 1)))))) (mSeq (mSet 3 (mOrV (mAndV (mOp geD (mOp ixD (mVar 0) (mC (.int 1))) (mOp ixD (mVar 1) (mC (.int 1)))) (mOp leD (mOp ixD (mVar 0) (mC (.int 2))) (mOp ixD (mVar 1) (mC (.int 2))))) (mAndV (mOp geD (mOp ixD (mVar 1) (mC (.int 1))) (mOp ixD (mVar 0) (mC (.int 1)))) (mOp leD (mOp ixD (mVar 1) (mC (.int 2))) (mOp ixD (mVar 0) (mC (.int 2))))))) (mRet (mOrV (mVar 2) (mAndV (mVar 3) (mOp neD (mOp ixD (mVar 0) (mC (.int 0))) (mOp ixD (mVar 1) (mC (.int 0)))))))))
noncomputable def m_l_law_fit : PF := runF 4 b_l_law_fit
noncomputable def b_l_law_read_1 : MS := (mSeq (mAsg (gTp 3 (gsCons (gNm 12) (gsCons (gNm 13) (gsCons (gNm 14) gsNil)))) (mMeth "str" partD (mVar 4) (mCons (mC (.str ":")) mNil))) (mSeq (mAsg (gTp 3 (gsCons (gNm 15) (gsCons (gNm 16) (gsCons (gNm 17) gsNil)))) (mMeth "str" partD (mVar 14) (mCons (mC (.str "-")) mNil))) (mSeq (mSet 5 (mDisp .tup (mCons (mVar 12) (mCons (mCall0 m_l_law_number [] (mCons (mVar 15) mNil)) (mCons (mCall0 m_l_law_number [] (mCons (mVar 17) mNil)) mNil))))) (mSeq (mIf (mOr (mTest (mOp eqD (mVar 13) (mC (.str "")))) (mOr (mTest (mOp eqD (mVar 16) (mC (.str "")))) (mTest (mOp (inD false) (mC .non) (mVar 5))))) (mRet (mC (.str "text"))) mSkip) (mDrop (mMut "list" appendU (mVar 3) (mCons (mVar 5) mNil)))))))
noncomputable def b_l_law_read_2 : MS := (mSeq (mIf (mOr (mNot (mTest (mCall0 m_l_law_name [] (mCons (mOp ixD (mVar 11) (mC (.int 0))) mNil)))) (mNot (mTest (mChain ltD ltD (mOp ixD (mVar 11) (mC (.int 1))) (mOp ixD (mVar 11) (mC (.int 2))) (mVar 7))))) (mRet (mC (.str "work"))) mSkip) (mIf (mTest (mOp (inD false) (mC (.bl false)) (mLc (mIter (mSl slL (mVar 3) mNoPart (mPart (mVar 10)))) (gNm 18) mYes (mCall0 m_l_law_fit [] (mCons (mVar 11) (mCons (mVar 18) mNil))) [18]))) (mRet (mC (.str "work"))) mSkip))
/-- _law_read: slots 0 text, 1 words, 2 numbers, 3 holds, 4 word, 5 hold, 6 gap, 7 length, 8 due, 9 late, 10 k, 11 one, 12 thing, 13 colon, 14 rest, 15 start, 16 dash, 17 end, 18 other -/
noncomputable def b_l_law_read : MS := (mSeq (mSet 1 (mMeth "str" splitD (mVar 0) (mCons (mC (.str " ")) mNil))) (mSeq (mSet 2 (mLc (mIter (mSl slL (mVar 1) (mPart (mC (.int 1))) (mPart (mC (.int 5))))) (gNm 4) mYes (mCall0 m_l_law_number [] (mCons (mVar 4) mNil)) [4])) (mSeq (mIf (mOr (mTest (mOp ltD (mCB lenD (mCons (mVar 1) mNil)) (mC (.int 5)))) (mTest (mOp (inD false) (mC .non) (mVar 2)))) (mRet (mC (.str "text"))) mSkip) (mSeq (mSetOw 3 (mDisp .lst mNil)) (mSeq (mFor (mIter (mSl slL (mVar 1) (mPart (mC (.int 5))) mNoPart)) (gNm 4) b_l_law_read_1) (mSeq (mAsg (gLs 4 (gsCons (gNm 6) (gsCons (gNm 7) (gsCons (gNm 8) (gsCons (gNm 9) gsNil))))) (mVar 2)) (mSeq (mIf (mOr (mNot (mTest (mCall0 m_l_law_name [] (mCons (mOp ixD (mVar 1) (mC (.int 0))) mNil)))) (mOr (mTest (mOp ltD (mVar 6) (mC (.int 1)))) (mOr (mTest (mOp ltD (mVar 7) (mC (.int 1)))) (mOr (mNot (mTest (mChain leD leD (mC (.int 1)) (mVar 8) (mVar 6)))) (mTest (mOp gtD (mCB lenD (mCons (mVar 3) mNil)) (mC (.int 6)))))))) (mRet (mC (.str "work"))) mSkip) (mFrz 3 (mSeq (mFor (mEnum (mCons (mVar 3) mNil)) (gTp 2 (gsCons (gNm 10) (gsCons (gNm 11) gsNil))) b_l_law_read_2) (mFrz 3 (mRet (mDisp .tup (mCons (mOp ixD (mVar 1) (mC (.int 0))) (mCons (mVar 6) (mCons (mVar 7) (mCons (mVar 8) (mCons (mVar 9) (mCons (mVar 3) mNil))))))))))))))))))
noncomputable def m_l_law_read : PF := runF 19 b_l_law_read
/-- _law_word: slots 0 way, 1 text, 2 desk, 3 work -/
noncomputable def b_l_law_word : MS := (mTry [0, 1, 2, 3] (mSeq (mIf (mTest (mOp eqD (mVar 0) (mC (.int 1)))) (mRet (mOwn 8 "say" (methC m_Desk_say []) (mVar 2) (mCons (mOp addD (mC (.str "work ")) (mVar 1)) mNil))) mSkip) (mSeq (mSet 3 (mCall0 m_read_work [] (mCons (mVar 1) mNil))) (mRet (mDisp .tup (mCons (mFld [6] "name" (mVar 3)) (mCons (mFld [6] "gap" (mVar 3)) (mCons (mFld [6] "length" (mVar 3)) (mCons (mFld [6] "due" (mVar 3)) (mCons (mFld [6] "late" (mVar 3)) (mCons (mOwn 6 "held" (methR m_Work_held []) (mVar 3) mNil) mNil)))))))))) [([3], none, fun a dd k => (mRet (mC (.str "text")))), ([0], none, fun a dd k => (mRet (mC (.str "work")))), ([0, 1, 2, 3], none, fun a dd k => (mRet (mC (.str "other"))))])
noncomputable def m_l_law_word : PF := runF 4 b_l_law_word
/-- _law_desk_right: slots 0 desk, 1 due, 2 told, 3 text, 4 greatest, 5 crowd -/
noncomputable def b_l_law_desk_right : MS := (mSeq (mSet 4 (mCB max2D (mCons (mC (.int 900)) (mCons (mOp ixD (mVar 1) (mC (.int 3))) mNil)))) (mSeq (mSet 5 (mOp addD (mOp fdivI (mOp addD (mVar 4) (mC (.int 899))) (mC (.int 900))) (mOp fdivI (mOp subI (mOp addD (mOp addD (mVar 4) (mOp ixD (mVar 1) (mC (.int 4)))) (mOp ixD (mVar 1) (mC (.int 1)))) (mC (.int 1))) (mOp ixD (mVar 1) (mC (.int 1)))))) (mSeq (mIf (mTest (mOp gtD (mVar 5) (mC (.int 80)))) (mRet (mOp eqD (mVar 2) (mDisp .lst (mCons (mC (.str "ok")) (mCons (mVar 1) (mCons (mC (.str "other")) mNil)))))) mSkip) (mRet (mAndV (mOp eqD (mVar 2) (mDisp .lst (mCons (mC (.str "ok")) (mCons (mVar 1) (mCons (mC (.str "ok")) mNil))))) (mOp eqD (mOwn 8 "say" (methC m_Desk_say []) (mVar 0) (mCons (mC (.str "show")) mNil)) (mOp addD (mC (.str "zz 900 1 900 0; ")) (mVar 3))))))))
noncomputable def m_l_law_desk_right : PF := runF 6 b_l_law_desk_right
noncomputable def b_law_2 : MS := (mSeq (mSet 5 (mCall m_l_law_spoilt [] (mCons (mVar 2) (mCons (mVar 3) mNil)))) (mSeq (mSet 6 (mCall0 m_l_law_read [] (mCons (mVar 5) mNil))) (mSeq (mSet 7 (mMake 8 m_Desk_new [] mNil)) (mSeq (mSet 8 (mDisp .lst (mCons (mOwn 8 "say" (methC m_Desk_say []) (mVar 7) (mCons (mC (.str "work zz 900 1 900 0")) mNil)) (mCons (mCall m_l_law_word [] (mCons (mC (.int 0)) (mCons (mVar 5) (mCons (mVar 7) mNil)))) (mCons (mCall m_l_law_word [] (mCons (mC (.int 1)) (mCons (mVar 5) (mCons (mVar 7) mNil)))) mNil))))) (mIf (mTest (mIsi "str" (mVar 6))) (mIf (mOr (mTest (mOp neD (mVar 8) (mDisp .lst (mCons (mC (.str "ok")) (mCons (mVar 6) (mCons (mVar 6) mNil)))))) (mTest (mOp neD (mOwn 8 "say" (methC m_Desk_say []) (mVar 7) (mCons (mC (.str "show")) mNil)) (mC (.str "zz 900 1 900 0"))))) (mRet (mC (.bl false))) mSkip) (mIf (mAnd (mTest (mOp neD (mOp ixD (mVar 6) (mC (.int 0))) (mC (.str "zz")))) (mNot (mTest (mCall m_l_law_desk_right [] (mCons (mVar 7) (mCons (mVar 6) (mCons (mVar 8) (mCons (mVar 5) mNil)))))))) (mRet (mC (.bl false))) mSkip))))))
noncomputable def b_law_1 : MS := (mSeq (mSet 2 (mCall m_l_law_well [] (mCons (mVar 1) mNil))) (mSeq (mSet 3 (mCall m_l_law_text [] (mCons (mVar 2) mNil))) (mSeq (mIf (mOr (mTest (mIsi "str" (mCall0 m_l_law_read [] (mCons (mVar 3) mNil)))) (mTest (mOp neD (mCall m_l_law_word [] (mCons (mC (.int 0)) (mCons (mVar 3) (mCons (mC .non) mNil)))) (mCall0 m_l_law_read [] (mCons (mVar 3) mNil))))) (mRet (mC (.bl false))) mSkip) (mFor (mRange1 (mCons (mC (.int 4)) mNil)) (gNm 4) b_law_2))))
/-- law: slots 0 script, 1 cell, 2 well, 3 text, 4 k, 5 odd, 6 due, 7 desk, 8 told -/
noncomputable def b_law : MS := (mSeq (mFor (mIter (mOp addD (mDisp .lst (mCons (mCall m_l_law_cell_at [] (mCons (mVar 0) (mCons (mC (.int 0)) mNil))) mNil)) (mSl slL (mVar 0) (mPart (mC (.int 1))) (mPart (mC (.int 12)))))) (gNm 1) b_law_1) (mRet (mC (.bl true))))
noncomputable def m_law : PF := runF 9 b_law
end K85
end
section
set_option Elab.async false
set_option linter.all false
set_option maxRecDepth 100000
set_option autoImplicit false
set_option maxHeartbeats 4000000
/-! K85: each def does what its m-term says (printed by emit.gen.py). -/
namespace K85
open PySem PySem.Spec PyProof.Rows L2 ML
def top (i : Nat) : Stmt := PySem.Challenge.pw_dutyproof_k85_whole_works_texts_by_any_s.main.body.getD i (.Pass ⟨0, 0, 0, 0⟩)
def mth (i j : Nat) : Stmt := (bodyC (top i)).getD j (.Pass ⟨0, 0, 0, 0⟩)
def cAd (K : PySem.W.Frag) : Nat → Addr
  | 0 => He.ga K "BadWork"
  | 1 => He.ga K "BadDuty"
  | 2 => He.ga K "TooMany"
  | 3 => He.ga K "NoText"
  | 4 => He.ga K "NoRow"
  | 5 => He.ga K "NoName"
  | 6 => He.ga K "Work"
  | 7 => He.ga K "Duty"
  | 8 => He.ga K "Desk"
  | 9 => He.ga K "DutyError"
  | _ => 0
abbrev CC (K : PySem.W.Frag) : ML.Ctx := ⟨K, cAd K⟩
abbrev s_is_whole : Stmt := top 2
def D_is_whole : He.DefD := ⟨("is_whole", none), "is_whole", "is_whole", defArgs s_is_whole, defBody s_is_whole, defScope s_is_whole, [], []⟩
abbrev s_rounds_up : Stmt := top 3
def D_rounds_up : He.DefD := ⟨("rounds_up", none), "rounds_up", "rounds_up", defArgs s_rounds_up, defBody s_rounds_up, defScope s_rounds_up, [], []⟩
abbrev s_is_name : Stmt := top 21
def D_is_name : He.DefD := ⟨("is_name", none), "is_name", "is_name", defArgs s_is_name, defBody s_is_name, defScope s_is_name, [], []⟩
abbrev s_from_on : Stmt := top 22
def D_from_on : He.DefD := ⟨("from_on", none), "from_on", "from_on", defArgs s_from_on, defBody s_from_on, defScope s_from_on, [], []⟩
abbrev s_is_hold : Stmt := top 23
def D_is_hold : He.DefD := ⟨("is_hold", none), "is_hold", "is_hold", defArgs s_is_hold, defBody s_is_hold, defScope s_is_hold, [], []⟩
abbrev s_within : Stmt := top 24
def D_within : He.DefD := ⟨("within", none), "within", "within", defArgs s_within, defBody s_within, defScope s_within, [], []⟩
abbrev s_together : Stmt := top 25
def D_together : He.DefD := ⟨("together", none), "together", "together", defArgs s_together, defBody s_together, defScope s_together, [], []⟩
abbrev s_holds_fit : Stmt := top 26
def D_holds_fit : He.DefD := ⟨("holds_fit", none), "holds_fit", "holds_fit", defArgs s_holds_fit, defBody s_holds_fit, defScope s_holds_fit, [], []⟩
abbrev s_Work_new : Stmt := mth 27 0
def D_Work_new : He.DefD := ⟨("Work", some "__init__"), "__init__", "Work.__init__", defArgs s_Work_new, defBody s_Work_new, defScope s_Work_new, [.non, .int 0, .non], []⟩
abbrev s_Work_held : Stmt := mth 27 1
def D_Work_held : He.DefD := ⟨("Work", some "held"), "held", "Work.held", defArgs s_Work_held, defBody s_Work_held, defScope s_Work_held, [], []⟩
abbrev s_made_again : Stmt := top 74
def D_made_again : He.DefD := ⟨("made_again", none), "made_again", "made_again", defArgs s_made_again, defBody s_made_again, defScope s_made_again, [], []⟩
abbrev s_Duty_crowd : Stmt := mth 75 4
def D_Duty_crowd : He.DefD := ⟨("Duty", some "crowd"), "crowd", "Duty.crowd", defArgs s_Duty_crowd, defBody s_Duty_crowd, defScope s_Duty_crowd, [], []⟩
abbrev s_Duty_new : Stmt := mth 75 0
def D_Duty_new : He.DefD := ⟨("Duty", some "__init__"), "__init__", "Duty.__init__", defArgs s_Duty_new, defBody s_Duty_new, defScope s_Duty_new, [], []⟩
abbrev s_Duty_size : Stmt := mth 75 1
def D_Duty_size : He.DefD := ⟨("Duty", some "size"), "size", "Duty.size", defArgs s_Duty_size, defBody s_Duty_size, defScope s_Duty_size, [], []⟩
abbrev s_Duty_work : Stmt := mth 75 2
def D_Duty_work : He.DefD := ⟨("Duty", some "work"), "work", "Duty.work", defArgs s_Duty_work, defBody s_Duty_work, defScope s_Duty_work, [], []⟩
abbrev s_is_number : Stmt := top 31
def D_is_number : He.DefD := ⟨("is_number", none), "is_number", "is_number", defArgs s_is_number, defBody s_is_number, defScope s_is_number, [], []⟩
abbrev s_number_in : Stmt := top 32
def D_number_in : He.DefD := ⟨("number_in", none), "number_in", "number_in", defArgs s_number_in, defBody s_number_in, defScope s_number_in, [], []⟩
abbrev s_words_of : Stmt := top 33
def D_words_of : He.DefD := ⟨("words_of", none), "words_of", "words_of", defArgs s_words_of, defBody s_words_of, defScope s_words_of, [], []⟩
abbrev s_show_hold : Stmt := top 34
def D_show_hold : He.DefD := ⟨("show_hold", none), "show_hold", "show_hold", defArgs s_show_hold, defBody s_show_hold, defScope s_show_hold, [], []⟩
abbrev s_read_hold : Stmt := top 35
def D_read_hold : He.DefD := ⟨("read_hold", none), "read_hold", "read_hold", defArgs s_read_hold, defBody s_read_hold, defScope s_read_hold, [], []⟩
abbrev s_show_work : Stmt := top 36
def D_show_work : He.DefD := ⟨("show_work", none), "show_work", "show_work", defArgs s_show_work, defBody s_show_work, defScope s_show_work, [], []⟩
abbrev s_read_work : Stmt := top 37
def D_read_work : He.DefD := ⟨("read_work", none), "read_work", "read_work", defArgs s_read_work, defBody s_read_work, defScope s_read_work, [], []⟩
abbrev s_works_of : Stmt := top 109
def D_works_of : He.DefD := ⟨("works_of", none), "works_of", "works_of", defArgs s_works_of, defBody s_works_of, defScope s_works_of, [], []⟩
abbrev s_with_work : Stmt := top 110
def D_with_work : He.DefD := ⟨("with_work", none), "with_work", "with_work", defArgs s_with_work, defBody s_with_work, defScope s_with_work, [], []⟩
abbrev s_said : Stmt := top 119
def D_said : He.DefD := ⟨("said", none), "said", "said", defArgs s_said, defBody s_said, defScope s_said, [], []⟩
abbrev s_Desk_new : Stmt := mth 120 0
def D_Desk_new : He.DefD := ⟨("Desk", some "__init__"), "__init__", "Desk.__init__", defArgs s_Desk_new, defBody s_Desk_new, defScope s_Desk_new, [], []⟩
abbrev s_Desk_say : Stmt := mth 120 1
def D_Desk_say : He.DefD := ⟨("Desk", some "say"), "say", "Desk.say", defArgs s_Desk_say, defBody s_Desk_say, defScope s_Desk_say, [], []⟩
abbrev s_l_law_cell_at : Stmt := top 122
def D_l_law_cell_at : He.DefD := ⟨("_law_cell_at", none), "_law_cell_at", "_law_cell_at", defArgs s_l_law_cell_at, defBody s_l_law_cell_at, defScope s_l_law_cell_at, [], []⟩
abbrev s_l_law_well : Stmt := top 123
def D_l_law_well : He.DefD := ⟨("_law_well", none), "_law_well", "_law_well", defArgs s_l_law_well, defBody s_l_law_well, defScope s_l_law_well, [], []⟩
abbrev s_l_law_draw : Stmt := top 124
def D_l_law_draw : He.DefD := ⟨("_law_draw", none), "_law_draw", "_law_draw", defArgs s_l_law_draw, defBody s_l_law_draw, defScope s_l_law_draw, [], []⟩
abbrev s_l_law_sign : Stmt := top 125
def D_l_law_sign : He.DefD := ⟨("_law_sign", none), "_law_sign", "_law_sign", defArgs s_l_law_sign, defBody s_l_law_sign, defScope s_l_law_sign, [], []⟩
abbrev s_l_law_text : Stmt := top 126
def D_l_law_text : He.DefD := ⟨("_law_text", none), "_law_text", "_law_text", defArgs s_l_law_text, defBody s_l_law_text, defScope s_l_law_text, [], []⟩
abbrev s_l_law_spoilt : Stmt := top 127
def D_l_law_spoilt : He.DefD := ⟨("_law_spoilt", none), "_law_spoilt", "_law_spoilt", defArgs s_l_law_spoilt, defBody s_l_law_spoilt, defScope s_l_law_spoilt, [], []⟩
abbrev s_l_law_name : Stmt := top 128
def D_l_law_name : He.DefD := ⟨("_law_name", none), "_law_name", "_law_name", defArgs s_l_law_name, defBody s_l_law_name, defScope s_l_law_name, [], []⟩
abbrev s_l_law_number : Stmt := top 129
def D_l_law_number : He.DefD := ⟨("_law_number", none), "_law_number", "_law_number", defArgs s_l_law_number, defBody s_l_law_number, defScope s_l_law_number, [], []⟩
abbrev s_l_law_fit : Stmt := top 130
def D_l_law_fit : He.DefD := ⟨("_law_fit", none), "_law_fit", "_law_fit", defArgs s_l_law_fit, defBody s_l_law_fit, defScope s_l_law_fit, [], []⟩
abbrev s_l_law_read : Stmt := top 131
def D_l_law_read : He.DefD := ⟨("_law_read", none), "_law_read", "_law_read", defArgs s_l_law_read, defBody s_l_law_read, defScope s_l_law_read, [], []⟩
abbrev s_l_law_word : Stmt := top 132
def D_l_law_word : He.DefD := ⟨("_law_word", none), "_law_word", "_law_word", defArgs s_l_law_word, defBody s_l_law_word, defScope s_l_law_word, [], []⟩
abbrev s_l_law_desk_right : Stmt := top 133
def D_l_law_desk_right : He.DefD := ⟨("_law_desk_right", none), "_law_desk_right", "_law_desk_right", defArgs s_l_law_desk_right, defBody s_l_law_desk_right, defScope s_l_law_desk_right, [], []⟩
abbrev s_law : Stmt := top 134
def D_law : He.DefD := ⟨("law", none), "law", "law", defArgs s_law, defBody s_law, defScope s_law, [], []⟩
def fn : List He.DefD := [D_is_whole, D_rounds_up, D_is_name, D_from_on, D_is_hold, D_within, D_together, D_holds_fit, D_Work_new, D_Work_held, D_made_again, D_Duty_crowd, D_Duty_new, D_Duty_size, D_Duty_work, D_is_number, D_number_in, D_words_of, D_show_hold, D_read_hold, D_show_work, D_read_work, D_works_of, D_with_work, D_said, D_Desk_new, D_Desk_say, D_l_law_cell_at, D_l_law_well, D_l_law_draw, D_l_law_sign, D_l_law_text, D_l_law_spoilt, D_l_law_name, D_l_law_number, D_l_law_fit, D_l_law_read, D_l_law_word, D_l_law_desk_right, D_law]
def fa0 : List He.Fa := [.free "isinstance", .free "int", .free "bool", .free "divmod", .free "str", .free "len", .int "MOST_SIGNS" 8, .str "LETTERS" "abcdefghijklmnopqrstuvwxyz", .free "tuple", .free "list", .int "MOST_HOLDS" 6, .free "range", .exc "BadWork", .cls "Work", .noat "Work" "name", .noat "Work" "gap", .noat "Work" "length", .noat "Work" "due", .noat "Work" "late", .noat "Work" "sections", .cls "Duty", .noat "Duty" "works", .free "max", .exc "BadDuty", .noat "Duty" "numbers", .int "MOST_WORKS" 12, .int "MOST_CROWD" 80, .exc "TooMany", .int "MOST_FIGURES" 60, .str "FIGURES" "0123456789"]
def fa1 : List He.Fa := [.exc "NoText", .exc "NoRow", .cls "Desk", .noat "Desk" "duty", .free "min", .free "enumerate", .exm "BadWork" "DutyError" true, .exm "BadDuty" "DutyError" true, .exm "TooMany" "DutyError" true, .exm "NoText" "DutyError" true, .glo "DutyError", .exm "BadWork" "BadWork" true, .exm "BadDuty" "BadWork" false, .exm "TooMany" "BadWork" false, .exm "NoText" "BadWork" false, .glo "BadWork", .exm "BadWork" "NoText" false, .exm "BadDuty" "NoText" false, .exm "TooMany" "NoText" false, .exm "NoText" "NoText" true, .glo "NoText", .glo "TooMany", .glo "NoRow", .glo "Work", .glo "BadDuty", .mkr "Work", .mkr "Duty", .glo "Duty", .mkr "Desk", .glo "Desk"]
def fa2 : List He.Fa := [.meth "Desk" "say", .meth "Duty" "crowd", .meth "Duty" "size", .meth "Duty" "work", .meth "Work" "held", .glo "is_whole", .glo "rounds_up", .glo "is_name", .glo "from_on", .glo "is_hold", .glo "within", .glo "together", .glo "holds_fit", .glo "made_again", .glo "is_number", .glo "number_in", .glo "words_of", .glo "show_hold", .glo "read_hold", .glo "show_work", .glo "read_work", .glo "works_of", .glo "with_work", .glo "said", .glo "_law_cell_at", .glo "_law_well", .glo "_law_draw", .glo "_law_sign", .glo "_law_text", .glo "_law_spoilt"]
def fa3 : List He.Fa := [.glo "_law_name", .glo "_law_number", .glo "_law_fit", .glo "_law_read", .glo "_law_word", .glo "_law_desk_right", .glo "law"]
def fa : List He.Fa := fa0 ++ fa1 ++ fa2 ++ fa3
def fx (K : PySem.W.Frag) : Bool := (kindB K (He.ga K "Work") (He.ga K "Work"))
structure Txt (P : Program) (w : World) (mg : Str → Option Value) (base : Heap) (K : PySem.W.Frag) : Prop where
  kin : K.In base
  gl : base.Ns mainGlobals mg
  c : SaysX fx fa fn K
section
variable {P : Program} {w : World} {mg : Str → Option Value} {base : Heap} {K : PySem.W.Frag} (T : Txt P w mg base K)
include T
theorem Txt.fact {i : Nat} {f : He.Fa} (h : fa[i]? = some f) : f.ok K = true := T.c.d.fact i h
theorem f_isinstance : mg "isinstance" = none := He.free_ok T.kin T.gl (T.fact (i := 0) (f := .free "isinstance") rfl)
theorem f_int : mg "int" = none := He.free_ok T.kin T.gl (T.fact (i := 1) (f := .free "int") rfl)
theorem f_bool : mg "bool" = none := He.free_ok T.kin T.gl (T.fact (i := 2) (f := .free "bool") rfl)
theorem f_divmod : mg "divmod" = none := He.free_ok T.kin T.gl (T.fact (i := 3) (f := .free "divmod") rfl)
theorem f_str : mg "str" = none := He.free_ok T.kin T.gl (T.fact (i := 4) (f := .free "str") rfl)
theorem f_len : mg "len" = none := He.free_ok T.kin T.gl (T.fact (i := 5) (f := .free "len") rfl)
theorem f_MOST_SIGNS : GInt mg "MOST_SIGNS" 8 := He.int_ok T.kin T.gl (T.fact (i := 6) (f := .int "MOST_SIGNS" 8) rfl)
theorem f_LETTERS : GStr mg "LETTERS" "abcdefghijklmnopqrstuvwxyz" := He.str_ok T.kin T.gl (T.fact (i := 7) (f := .str "LETTERS" "abcdefghijklmnopqrstuvwxyz") rfl)
theorem f_tuple : mg "tuple" = none := He.free_ok T.kin T.gl (T.fact (i := 8) (f := .free "tuple") rfl)
theorem f_list : mg "list" = none := He.free_ok T.kin T.gl (T.fact (i := 9) (f := .free "list") rfl)
theorem f_MOST_HOLDS : GInt mg "MOST_HOLDS" 6 := He.int_ok T.kin T.gl (T.fact (i := 10) (f := .int "MOST_HOLDS" 6) rfl)
theorem f_range : mg "range" = none := He.free_ok T.kin T.gl (T.fact (i := 11) (f := .free "range") rfl)
theorem e_BadWork {X : Cx} (hK : X.K = K := by rfl) : ExcOk (CC K) X 0 := by
  obtain ⟨h1, h2, h3, h4⟩ := He.exc_ok (T.fact (i := 12) (f := .exc "BadWork") rfl)
  subst hK
  exact ⟨_, _, _, _, PySem.F.excBase_ValueError, h1, h2, raises_own h3 h4⟩
theorem c_Work : Cls K (He.ga K "Work") := He.cls_ok (T.fact (i := 13) (f := .cls "Work") rfl)
theorem na_Work_name : NoAttr K (He.ga K "Work") "name" := He.noat_ok (T.fact (i := 14) (f := .noat "Work" "name") rfl)
theorem na_Work_gap : NoAttr K (He.ga K "Work") "gap" := He.noat_ok (T.fact (i := 15) (f := .noat "Work" "gap") rfl)
theorem na_Work_length : NoAttr K (He.ga K "Work") "length" := He.noat_ok (T.fact (i := 16) (f := .noat "Work" "length") rfl)
theorem na_Work_due : NoAttr K (He.ga K "Work") "due" := He.noat_ok (T.fact (i := 17) (f := .noat "Work" "due") rfl)
theorem na_Work_late : NoAttr K (He.ga K "Work") "late" := He.noat_ok (T.fact (i := 18) (f := .noat "Work" "late") rfl)
theorem na_Work_sections : NoAttr K (He.ga K "Work") "sections" := He.noat_ok (T.fact (i := 19) (f := .noat "Work" "sections") rfl)
theorem c_Duty : Cls K (He.ga K "Duty") := He.cls_ok (T.fact (i := 20) (f := .cls "Duty") rfl)
theorem na_Duty_works : NoAttr K (He.ga K "Duty") "works" := He.noat_ok (T.fact (i := 21) (f := .noat "Duty" "works") rfl)
theorem f_max : mg "max" = none := He.free_ok T.kin T.gl (T.fact (i := 22) (f := .free "max") rfl)
theorem e_BadDuty {X : Cx} (hK : X.K = K := by rfl) : ExcOk (CC K) X 1 := by
  obtain ⟨h1, h2, h3, h4⟩ := He.exc_ok (T.fact (i := 23) (f := .exc "BadDuty") rfl)
  subst hK
  exact ⟨_, _, _, _, PySem.F.excBase_ValueError, h1, h2, raises_own h3 h4⟩
theorem na_Duty_numbers : NoAttr K (He.ga K "Duty") "numbers" := He.noat_ok (T.fact (i := 24) (f := .noat "Duty" "numbers") rfl)
theorem f_MOST_WORKS : GInt mg "MOST_WORKS" 12 := He.int_ok T.kin T.gl (T.fact (i := 25) (f := .int "MOST_WORKS" 12) rfl)
theorem f_MOST_CROWD : GInt mg "MOST_CROWD" 80 := He.int_ok T.kin T.gl (T.fact (i := 26) (f := .int "MOST_CROWD" 80) rfl)
theorem e_TooMany {X : Cx} (hK : X.K = K := by rfl) : ExcOk (CC K) X 2 := by
  obtain ⟨h1, h2, h3, h4⟩ := He.exc_ok (T.fact (i := 27) (f := .exc "TooMany") rfl)
  subst hK
  exact ⟨_, _, _, _, PySem.F.excBase_ValueError, h1, h2, raises_own h3 h4⟩
theorem f_MOST_FIGURES : GInt mg "MOST_FIGURES" 60 := He.int_ok T.kin T.gl (T.fact (i := 28) (f := .int "MOST_FIGURES" 60) rfl)
theorem f_FIGURES : GStr mg "FIGURES" "0123456789" := He.str_ok T.kin T.gl (T.fact (i := 29) (f := .str "FIGURES" "0123456789") rfl)
theorem e_NoText {X : Cx} (hK : X.K = K := by rfl) : ExcOk (CC K) X 3 := by
  obtain ⟨h1, h2, h3, h4⟩ := He.exc_ok (T.fact (i := 30) (f := .exc "NoText") rfl)
  subst hK
  exact ⟨_, _, _, _, PySem.F.excBase_ValueError, h1, h2, raises_own h3 h4⟩
theorem e_NoRow {X : Cx} (hK : X.K = K := by rfl) : ExcOk (CC K) X 4 := by
  obtain ⟨h1, h2, h3, h4⟩ := He.exc_ok (T.fact (i := 31) (f := .exc "NoRow") rfl)
  subst hK
  exact ⟨_, _, _, _, PySem.F.excBase_ValueError, h1, h2, raises_own h3 h4⟩
theorem c_Desk : Cls K (He.ga K "Desk") := He.cls_ok (T.fact (i := 32) (f := .cls "Desk") rfl)
theorem na_Desk_duty : NoAttr K (He.ga K "Desk") "duty" := He.noat_ok (T.fact (i := 33) (f := .noat "Desk" "duty") rfl)
theorem f_min : mg "min" = none := He.free_ok T.kin T.gl (T.fact (i := 34) (f := .free "min") rfl)
theorem f_enumerate : mg "enumerate" = none := He.free_ok T.kin T.gl (T.fact (i := 35) (f := .free "enumerate") rfl)
theorem xm_BadWork_DutyError : PySem.W.exmOne K (.ref (He.ga K "BadWork")) (.ref (He.ga K "DutyError")) = some true := He.exm_ok (T.fact (i := 36) (f := .exm "BadWork" "DutyError" true) rfl)
theorem xm_BadDuty_DutyError : PySem.W.exmOne K (.ref (He.ga K "BadDuty")) (.ref (He.ga K "DutyError")) = some true := He.exm_ok (T.fact (i := 37) (f := .exm "BadDuty" "DutyError" true) rfl)
theorem xm_TooMany_DutyError : PySem.W.exmOne K (.ref (He.ga K "TooMany")) (.ref (He.ga K "DutyError")) = some true := He.exm_ok (T.fact (i := 38) (f := .exm "TooMany" "DutyError" true) rfl)
theorem xm_NoText_DutyError : PySem.W.exmOne K (.ref (He.ga K "NoText")) (.ref (He.ga K "DutyError")) = some true := He.exm_ok (T.fact (i := 39) (f := .exm "NoText" "DutyError" true) rfl)
theorem f_DutyError : mg "DutyError" = some (.ref (He.ga K "DutyError")) := He.glo_ok T.kin T.gl (T.fact (i := 40) (f := .glo "DutyError") rfl)
theorem xm_BadWork_BadWork : PySem.W.exmOne K (.ref (He.ga K "BadWork")) (.ref (He.ga K "BadWork")) = some true := He.exm_ok (T.fact (i := 41) (f := .exm "BadWork" "BadWork" true) rfl)
theorem xm_BadDuty_BadWork : PySem.W.exmOne K (.ref (He.ga K "BadDuty")) (.ref (He.ga K "BadWork")) = some false := He.exm_ok (T.fact (i := 42) (f := .exm "BadDuty" "BadWork" false) rfl)
theorem xm_TooMany_BadWork : PySem.W.exmOne K (.ref (He.ga K "TooMany")) (.ref (He.ga K "BadWork")) = some false := He.exm_ok (T.fact (i := 43) (f := .exm "TooMany" "BadWork" false) rfl)
theorem xm_NoText_BadWork : PySem.W.exmOne K (.ref (He.ga K "NoText")) (.ref (He.ga K "BadWork")) = some false := He.exm_ok (T.fact (i := 44) (f := .exm "NoText" "BadWork" false) rfl)
theorem f_BadWork : mg "BadWork" = some (.ref (He.ga K "BadWork")) := He.glo_ok T.kin T.gl (T.fact (i := 45) (f := .glo "BadWork") rfl)
theorem xm_BadWork_NoText : PySem.W.exmOne K (.ref (He.ga K "BadWork")) (.ref (He.ga K "NoText")) = some false := He.exm_ok (T.fact (i := 46) (f := .exm "BadWork" "NoText" false) rfl)
theorem xm_BadDuty_NoText : PySem.W.exmOne K (.ref (He.ga K "BadDuty")) (.ref (He.ga K "NoText")) = some false := He.exm_ok (T.fact (i := 47) (f := .exm "BadDuty" "NoText" false) rfl)
theorem xm_TooMany_NoText : PySem.W.exmOne K (.ref (He.ga K "TooMany")) (.ref (He.ga K "NoText")) = some false := He.exm_ok (T.fact (i := 48) (f := .exm "TooMany" "NoText" false) rfl)
theorem xm_NoText_NoText : PySem.W.exmOne K (.ref (He.ga K "NoText")) (.ref (He.ga K "NoText")) = some true := He.exm_ok (T.fact (i := 49) (f := .exm "NoText" "NoText" true) rfl)
theorem f_NoText : mg "NoText" = some (.ref (He.ga K "NoText")) := He.glo_ok T.kin T.gl (T.fact (i := 50) (f := .glo "NoText") rfl)
theorem f_TooMany : mg "TooMany" = some (.ref (He.ga K "TooMany")) := He.glo_ok T.kin T.gl (T.fact (i := 51) (f := .glo "TooMany") rfl)
theorem f_NoRow : mg "NoRow" = some (.ref (He.ga K "NoRow")) := He.glo_ok T.kin T.gl (T.fact (i := 52) (f := .glo "NoRow") rfl)
theorem f_Work : mg "Work" = some (.ref (He.ga K "Work")) := He.glo_ok T.kin T.gl (T.fact (i := 53) (f := .glo "Work") rfl)
theorem f_BadDuty : mg "BadDuty" = some (.ref (He.ga K "BadDuty")) := He.glo_ok T.kin T.gl (T.fact (i := 54) (f := .glo "BadDuty") rfl)
theorem mk_Work : Mk K (He.ga K "Work") (He.ma K (He.ga K "Work") "__init__") := He.mkr_ok (T.fact (i := 55) (f := .mkr "Work") rfl)
theorem mk_Duty : Mk K (He.ga K "Duty") (He.ma K (He.ga K "Duty") "__init__") := He.mkr_ok (T.fact (i := 56) (f := .mkr "Duty") rfl)
theorem f_Duty : mg "Duty" = some (.ref (He.ga K "Duty")) := He.glo_ok T.kin T.gl (T.fact (i := 57) (f := .glo "Duty") rfl)
theorem mk_Desk : Mk K (He.ga K "Desk") (He.ma K (He.ga K "Desk") "__init__") := He.mkr_ok (T.fact (i := 58) (f := .mkr "Desk") rfl)
theorem f_Desk : mg "Desk" = some (.ref (He.ga K "Desk")) := He.glo_ok T.kin T.gl (T.fact (i := 59) (f := .glo "Desk") rfl)
theorem mt_Desk_say : Meth K (He.ga K "Desk") "say" (He.ma K (He.ga K "Desk") "say") := He.meth_ok (T.fact (i := 60) (f := .meth "Desk" "say") rfl)
theorem mt_Duty_crowd : Meth K (He.ga K "Duty") "crowd" (He.ma K (He.ga K "Duty") "crowd") := He.meth_ok (T.fact (i := 61) (f := .meth "Duty" "crowd") rfl)
theorem mt_Duty_size : Meth K (He.ga K "Duty") "size" (He.ma K (He.ga K "Duty") "size") := He.meth_ok (T.fact (i := 62) (f := .meth "Duty" "size") rfl)
theorem mt_Duty_work : Meth K (He.ga K "Duty") "work" (He.ma K (He.ga K "Duty") "work") := He.meth_ok (T.fact (i := 63) (f := .meth "Duty" "work") rfl)
theorem mt_Work_held : Meth K (He.ga K "Work") "held" (He.ma K (He.ga K "Work") "held") := He.meth_ok (T.fact (i := 64) (f := .meth "Work" "held") rfl)
theorem f_is_whole : mg "is_whole" = some (.ref (He.ga K "is_whole")) := He.glo_ok T.kin T.gl (T.fact (i := 65) (f := .glo "is_whole") rfl)
theorem f_rounds_up : mg "rounds_up" = some (.ref (He.ga K "rounds_up")) := He.glo_ok T.kin T.gl (T.fact (i := 66) (f := .glo "rounds_up") rfl)
theorem f_is_name : mg "is_name" = some (.ref (He.ga K "is_name")) := He.glo_ok T.kin T.gl (T.fact (i := 67) (f := .glo "is_name") rfl)
theorem f_from_on : mg "from_on" = some (.ref (He.ga K "from_on")) := He.glo_ok T.kin T.gl (T.fact (i := 68) (f := .glo "from_on") rfl)
theorem f_is_hold : mg "is_hold" = some (.ref (He.ga K "is_hold")) := He.glo_ok T.kin T.gl (T.fact (i := 69) (f := .glo "is_hold") rfl)
theorem f_within : mg "within" = some (.ref (He.ga K "within")) := He.glo_ok T.kin T.gl (T.fact (i := 70) (f := .glo "within") rfl)
theorem f_together : mg "together" = some (.ref (He.ga K "together")) := He.glo_ok T.kin T.gl (T.fact (i := 71) (f := .glo "together") rfl)
theorem f_holds_fit : mg "holds_fit" = some (.ref (He.ga K "holds_fit")) := He.glo_ok T.kin T.gl (T.fact (i := 72) (f := .glo "holds_fit") rfl)
theorem f_made_again : mg "made_again" = some (.ref (He.ga K "made_again")) := He.glo_ok T.kin T.gl (T.fact (i := 73) (f := .glo "made_again") rfl)
theorem f_is_number : mg "is_number" = some (.ref (He.ga K "is_number")) := He.glo_ok T.kin T.gl (T.fact (i := 74) (f := .glo "is_number") rfl)
theorem f_number_in : mg "number_in" = some (.ref (He.ga K "number_in")) := He.glo_ok T.kin T.gl (T.fact (i := 75) (f := .glo "number_in") rfl)
theorem f_words_of : mg "words_of" = some (.ref (He.ga K "words_of")) := He.glo_ok T.kin T.gl (T.fact (i := 76) (f := .glo "words_of") rfl)
theorem f_show_hold : mg "show_hold" = some (.ref (He.ga K "show_hold")) := He.glo_ok T.kin T.gl (T.fact (i := 77) (f := .glo "show_hold") rfl)
theorem f_read_hold : mg "read_hold" = some (.ref (He.ga K "read_hold")) := He.glo_ok T.kin T.gl (T.fact (i := 78) (f := .glo "read_hold") rfl)
theorem f_show_work : mg "show_work" = some (.ref (He.ga K "show_work")) := He.glo_ok T.kin T.gl (T.fact (i := 79) (f := .glo "show_work") rfl)
theorem f_read_work : mg "read_work" = some (.ref (He.ga K "read_work")) := He.glo_ok T.kin T.gl (T.fact (i := 80) (f := .glo "read_work") rfl)
theorem f_works_of : mg "works_of" = some (.ref (He.ga K "works_of")) := He.glo_ok T.kin T.gl (T.fact (i := 81) (f := .glo "works_of") rfl)
theorem f_with_work : mg "with_work" = some (.ref (He.ga K "with_work")) := He.glo_ok T.kin T.gl (T.fact (i := 82) (f := .glo "with_work") rfl)
theorem f_said : mg "said" = some (.ref (He.ga K "said")) := He.glo_ok T.kin T.gl (T.fact (i := 83) (f := .glo "said") rfl)
theorem f__law_cell_at : mg "_law_cell_at" = some (.ref (He.ga K "_law_cell_at")) := He.glo_ok T.kin T.gl (T.fact (i := 84) (f := .glo "_law_cell_at") rfl)
theorem f__law_well : mg "_law_well" = some (.ref (He.ga K "_law_well")) := He.glo_ok T.kin T.gl (T.fact (i := 85) (f := .glo "_law_well") rfl)
theorem f__law_draw : mg "_law_draw" = some (.ref (He.ga K "_law_draw")) := He.glo_ok T.kin T.gl (T.fact (i := 86) (f := .glo "_law_draw") rfl)
theorem f__law_sign : mg "_law_sign" = some (.ref (He.ga K "_law_sign")) := He.glo_ok T.kin T.gl (T.fact (i := 87) (f := .glo "_law_sign") rfl)
theorem f__law_text : mg "_law_text" = some (.ref (He.ga K "_law_text")) := He.glo_ok T.kin T.gl (T.fact (i := 88) (f := .glo "_law_text") rfl)
theorem f__law_spoilt : mg "_law_spoilt" = some (.ref (He.ga K "_law_spoilt")) := He.glo_ok T.kin T.gl (T.fact (i := 89) (f := .glo "_law_spoilt") rfl)
theorem f__law_name : mg "_law_name" = some (.ref (He.ga K "_law_name")) := He.glo_ok T.kin T.gl (T.fact (i := 90) (f := .glo "_law_name") rfl)
theorem f__law_number : mg "_law_number" = some (.ref (He.ga K "_law_number")) := He.glo_ok T.kin T.gl (T.fact (i := 91) (f := .glo "_law_number") rfl)
theorem f__law_fit : mg "_law_fit" = some (.ref (He.ga K "_law_fit")) := He.glo_ok T.kin T.gl (T.fact (i := 92) (f := .glo "_law_fit") rfl)
theorem f__law_read : mg "_law_read" = some (.ref (He.ga K "_law_read")) := He.glo_ok T.kin T.gl (T.fact (i := 93) (f := .glo "_law_read") rfl)
theorem f__law_word : mg "_law_word" = some (.ref (He.ga K "_law_word")) := He.glo_ok T.kin T.gl (T.fact (i := 94) (f := .glo "_law_word") rfl)
theorem f__law_desk_right : mg "_law_desk_right" = some (.ref (He.ga K "_law_desk_right")) := He.glo_ok T.kin T.gl (T.fact (i := 95) (f := .glo "_law_desk_right") rfl)
theorem f_law : mg "law" = some (.ref (He.ga K "law")) := He.glo_ok T.kin T.gl (T.fact (i := 96) (f := .glo "law") rfl)
theorem a_name : AttrOk (CC K) [6] "name" := ⟨fun k hk => by
  simp only [List.mem_cons, List.not_mem_nil, or_false] at hk
  subst hk
  · exact ⟨c_Work T, na_Work_name T⟩⟩
theorem a_gap : AttrOk (CC K) [6] "gap" := ⟨fun k hk => by
  simp only [List.mem_cons, List.not_mem_nil, or_false] at hk
  subst hk
  · exact ⟨c_Work T, na_Work_gap T⟩⟩
theorem a_length : AttrOk (CC K) [6] "length" := ⟨fun k hk => by
  simp only [List.mem_cons, List.not_mem_nil, or_false] at hk
  subst hk
  · exact ⟨c_Work T, na_Work_length T⟩⟩
theorem a_due : AttrOk (CC K) [6] "due" := ⟨fun k hk => by
  simp only [List.mem_cons, List.not_mem_nil, or_false] at hk
  subst hk
  · exact ⟨c_Work T, na_Work_due T⟩⟩
theorem a_late : AttrOk (CC K) [6] "late" := ⟨fun k hk => by
  simp only [List.mem_cons, List.not_mem_nil, or_false] at hk
  subst hk
  · exact ⟨c_Work T, na_Work_late T⟩⟩
theorem a_sections : AttrOk (CC K) [6] "sections" := ⟨fun k hk => by
  simp only [List.mem_cons, List.not_mem_nil, or_false] at hk
  subst hk
  · exact ⟨c_Work T, na_Work_sections T⟩⟩
theorem a_works : AttrOk (CC K) [7] "works" := ⟨fun k hk => by
  simp only [List.mem_cons, List.not_mem_nil, or_false] at hk
  subst hk
  · exact ⟨c_Duty T, na_Duty_works T⟩⟩
theorem a_numbers : AttrOk (CC K) [7] "numbers" := ⟨fun k hk => by
  simp only [List.mem_cons, List.not_mem_nil, or_false] at hk
  subst hk
  · exact ⟨c_Duty T, na_Duty_numbers T⟩⟩
theorem a_duty : AttrOk (CC K) [8] "duty" := ⟨fun k hk => by
  simp only [List.mem_cons, List.not_mem_nil, or_false] at hk
  subst hk
  · exact ⟨c_Desk T, na_Desk_duty T⟩⟩
theorem q_Work {X : Cx} (hK : X.K = K := by rfl) : KindOk (CC K) X [6] (He.ga K "Work") := ⟨fun k hk => by
  have e := T.c.x
  unfold fx at e
  try simp only [Bool.and_eq_true] at e
  subst hK
  simp only [List.mem_cons, List.not_mem_nil, or_false] at hk
  subst hk
  · exact kindB_ok (c_Work T) e⟩
theorem exm_l_law_word_DutyError {X : Cx} (hK : X.K = K := by rfl) : ∀ k ∈ [0, 1, 2, 3], PySem.W.exmOne X.K (.ref ((CC K).cA k)) (.ref (He.ga K "DutyError")) = some (decide (k ∈ [0, 1, 2, 3])) := fun k hk => by
  subst hK
  simp only [List.mem_cons, List.not_mem_nil, or_false] at hk
  rcases hk with rfl | rfl | rfl | rfl
  · exact xm_BadWork_DutyError T
  · exact xm_BadDuty_DutyError T
  · exact xm_TooMany_DutyError T
  · exact xm_NoText_DutyError T
theorem exm_l_law_word_BadWork {X : Cx} (hK : X.K = K := by rfl) : ∀ k ∈ [0, 1, 2, 3], PySem.W.exmOne X.K (.ref ((CC K).cA k)) (.ref (He.ga K "BadWork")) = some (decide (k ∈ [0])) := fun k hk => by
  subst hK
  simp only [List.mem_cons, List.not_mem_nil, or_false] at hk
  rcases hk with rfl | rfl | rfl | rfl
  · exact xm_BadWork_BadWork T
  · exact xm_BadDuty_BadWork T
  · exact xm_TooMany_BadWork T
  · exact xm_NoText_BadWork T
theorem exm_l_law_word_NoText {X : Cx} (hK : X.K = K := by rfl) : ∀ k ∈ [0, 1, 2, 3], PySem.W.exmOne X.K (.ref ((CC K).cA k)) (.ref (He.ga K "NoText")) = some (decide (k ∈ [3])) := fun k hk => by
  subst hK
  simp only [List.mem_cons, List.not_mem_nil, or_false] at hk
  rcases hk with rfl | rfl | rfl | rfl
  · exact xm_BadWork_NoText T
  · exact xm_BadDuty_NoText T
  · exact xm_TooMany_NoText T
  · exact xm_NoText_NoText T
/-! ### is_whole -/
omit T in
theorem sc_is_whole : FnScope ["thing"] ["thing"] (defScope s_is_whole) := ⟨rfl, rfl, rfl, by decide +kernel, rfl, by decide +kernel, by decide +kernel⟩
theorem w_is_whole {f : Addr} {cdv : Value} {A : Around} {outer : List Env} {s : Shared} {H : Hp} {E : XK} (hr : Room 1 (A.deeper (envOfC "is_whole" (defScope s_is_whole) s.heap.objs.size f cdv))) :
    RSs (CC K) (cxOf (L2.CX P w) P w K mg base ["thing"] "is_whole" (defScope s_is_whole) f cdv A outer s H E) (fun cls d _ H => E cls d H) false (defBody s_is_whole) b_is_whole := by
  have h := Kx.of (P := P) (w := w) (C := CC K) (mg := mg) (base := base) (N := ["thing"]) (outer := outer) (E := E) (H := H) sc_is_whole.nd hr
  exact (rss_one (rs_ret (re_and (k_isi h.toKb (f_isinstance T) (f_int T) (re_var 0)) (re_one (re_not (k_isi h.toKb (f_isinstance T) (f_bool T) (re_var 0)))))))
theorem d_is_whole : DefOk P w mg base (CC K) 2 1 "is_whole" m_is_whole [] := by
  obtain ⟨fd, F⟩ := T.c.d.def_ 0 (d := D_is_whole) rfl
  have b := F.bindsN (ps := ["thing"]) fun _ _ _ _ _ _ us hl => match us, hl with | [_], _ => rfl
  exact ⟨⟨_, f_is_whole T, F.kp, fd, _, [], [], fn_okF (C := CC K) F sc_is_whole (fun cdv A outer s H E hr => w_is_whole T hr), b, .nil, rfl⟩⟩
/-! ### rounds_up -/
omit T in
theorem sc_rounds_up : FnScope ["top", "bottom", "whole", "rest"] ["top", "bottom"] (defScope s_rounds_up) := ⟨rfl, rfl, rfl, by decide +kernel, rfl, by decide +kernel, by decide +kernel⟩
theorem w_rounds_up {f : Addr} {cdv : Value} {A : Around} {outer : List Env} {s : Shared} {H : Hp} {E : XK} (hr : Room 1 (A.deeper (envOfC "rounds_up" (defScope s_rounds_up) s.heap.objs.size f cdv))) :
    RSs (CC K) (cxOf (L2.CX P w) P w K mg base ["top", "bottom", "whole", "rest"] "rounds_up" (defScope s_rounds_up) f cdv A outer s H E) (fun cls d _ H => E cls d H) false (defBody s_rounds_up) b_rounds_up := by
  have h := Kx.of (P := P) (w := w) (C := CC K) (mg := mg) (base := base) (N := ["top", "bottom", "whole", "rest"]) (outer := outer) (E := E) (H := H) sc_rounds_up.nd hr
  exact (rss_cons (rs_asg (k_divmod (f_divmod T) (ra_cons (re_var 0) (ra_cons (re_var 1) ra_nil))) (rg_tup rfl h.toKb.calm (rgs_cons (k_gname h.toKb.nd) (rgs_cons (k_gname h.toKb.nd) rgs_nil)))) (rss_cons (rs_if (k_tcmp x_gt (re_var 3) re_int) (rss_one (k_addA h.toKb.nd re_int)) rss_nil) (rss_one (rs_ret (re_var 2)))))
theorem d_rounds_up : DefOk P w mg base (CC K) 2 2 "rounds_up" m_rounds_up [] := by
  obtain ⟨fd, F⟩ := T.c.d.def_ 1 (d := D_rounds_up) rfl
  have b := F.bindsN (ps := ["top", "bottom"]) fun _ _ _ _ _ _ us hl => match us, hl with | [_, _], _ => rfl
  exact ⟨⟨_, f_rounds_up T, F.kp, fd, _, [], [], fn_okF (C := CC K) F sc_rounds_up (fun cdv A outer s H E hr => w_rounds_up T hr), b, .nil, rfl⟩⟩
/-! ### is_name -/
omit T in
theorem sc_is_name : FnScope ["thing", "sign"] ["thing"] (defScope s_is_name) := ⟨rfl, rfl, rfl, by decide +kernel, rfl, by decide +kernel, by decide +kernel⟩
theorem w_is_name {f : Addr} {cdv : Value} {A : Around} {outer : List Env} {s : Shared} {H : Hp} {E : XK} (hr : Room 1 (A.deeper (envOfC "is_name" (defScope s_is_name) s.heap.objs.size f cdv))) :
    RSs (CC K) (cxOf (L2.CX P w) P w K mg base ["thing", "sign"] "is_name" (defScope s_is_name) f cdv A outer s H E) (fun cls d _ H => E cls d H) false (defBody s_is_name) b_is_name := by
  have h := Kx.of (P := P) (w := w) (C := CC K) (mg := mg) (base := base) (N := ["thing", "sign"]) (outer := outer) (E := E) (H := H) sc_is_name.nd hr
  exact (rss_cons (rs_if (RT.of (rw_or (rt_not (rt_val (k_isi h.toKb (f_isinstance T) (f_str T) (re_var 0)))) (rw_or1 (rt_not (k_tchain x_le x_le re_int (k_len h.toKb (f_len T) (ra_cons (re_var 0) ra_nil)) (k_gint (f_MOST_SIGNS T))))))) (rss_one (rs_ret re_bl)) rss_nil) (rss_cons (rs_for h.hp h.toKb.calm (ri_iter (re_var 0)) (k_gname h.toKb.nd) (rss_one (rs_if (k_tcmp (x_nin (Kb.s h.toKb)) (re_var 1) (k_gstr (f_LETTERS T))) (rss_one (rs_ret re_bl)) rss_nil))) (rss_one (rs_ret re_bl))))
theorem d_is_name : DefOk P w mg base (CC K) 2 1 "is_name" m_is_name [] := by
  obtain ⟨fd, F⟩ := T.c.d.def_ 2 (d := D_is_name) rfl
  have b := F.bindsN (ps := ["thing"]) fun _ _ _ _ _ _ us hl => match us, hl with | [_], _ => rfl
  exact ⟨⟨_, f_is_name T, F.kp, fd, _, [], [], fn_okF (C := CC K) F sc_is_name (fun cdv A outer s H E hr => w_is_name T hr), b, .nil, rfl⟩⟩
/-! ### from_on -/
omit T in
theorem sc_from_on : FnScope ["thing", "low"] ["thing", "low"] (defScope s_from_on) := ⟨rfl, rfl, rfl, by decide +kernel, rfl, by decide +kernel, by decide +kernel⟩
theorem w_from_on {f : Addr} {cdv : Value} {A : Around} {outer : List Env} {s : Shared} {H : Hp} {E : XK} (hr : Room 2 (A.deeper (envOfC "from_on" (defScope s_from_on) s.heap.objs.size f cdv))) :
    RSs (CC K) (cxOf (L2.CX P w) P w K mg base ["thing", "low"] "from_on" (defScope s_from_on) f cdv A outer s H E) (fun cls d _ H => E cls d H) false (defBody s_from_on) b_from_on := by
  have h := Kx.of (P := P) (w := w) (C := CC K) (mg := mg) (base := base) (N := ["thing", "low"]) (outer := outer) (E := E) (H := H) sc_from_on.nd hr
  exact (rss_one (rs_ret (re_and (k_call0 h.toKb (d_is_whole T) (by decide) (ra_cons (re_var 0) ra_nil) (arity_cons arity_nil) rfl) (re_one (k_cmp x_ge (re_var 0) (re_var 1))))))
theorem d_from_on : DefOk P w mg base (CC K) 3 2 "from_on" m_from_on [] := by
  obtain ⟨fd, F⟩ := T.c.d.def_ 3 (d := D_from_on) rfl
  have b := F.bindsN (ps := ["thing", "low"]) fun _ _ _ _ _ _ us hl => match us, hl with | [_, _], _ => rfl
  exact ⟨⟨_, f_from_on T, F.kp, fd, _, [], [], fn_okF (C := CC K) F sc_from_on (fun cdv A outer s H E hr => w_from_on T hr), b, .nil, rfl⟩⟩
/-! ### is_hold -/
omit T in
theorem sc_is_hold : FnScope ["thing", "length"] ["thing", "length"] (defScope s_is_hold) := ⟨rfl, rfl, rfl, by decide +kernel, rfl, by decide +kernel, by decide +kernel⟩
theorem w_is_hold {f : Addr} {cdv : Value} {A : Around} {outer : List Env} {s : Shared} {H : Hp} {E : XK} (hr : Room 2 (A.deeper (envOfC "is_hold" (defScope s_is_hold) s.heap.objs.size f cdv))) :
    RSs (CC K) (cxOf (L2.CX P w) P w K mg base ["thing", "length"] "is_hold" (defScope s_is_hold) f cdv A outer s H E) (fun cls d _ H => E cls d H) false (defBody s_is_hold) b_is_hold := by
  have h := Kx.of (P := P) (w := w) (C := CC K) (mg := mg) (base := base) (N := ["thing", "length"]) (outer := outer) (E := E) (H := H) sc_is_hold.nd hr
  exact (rss_cons (rs_if (RT.of (rw_or (rt_not (rt_val (k_isi h.toKb (f_isinstance T) (f_tuple T) (re_var 0)))) (rw_or1 (k_tcmp (x_ne (Kb.s h.toKb)) (k_len h.toKb (f_len T) (ra_cons (re_var 0) ra_nil)) re_int)))) (rss_one (rs_ret re_bl)) rss_nil) (rss_cons (rs_if (RT.of (rw_or (rt_not (rt_val (k_call0 h.toKb (d_is_name T) (by decide) (ra_cons (k_ix (Kb.s h.toKb) (re_var 0) re_int) ra_nil) (arity_cons arity_nil) rfl))) (rw_or (rt_not (rt_val (k_call0 h.toKb (d_is_whole T) (by decide) (ra_cons (k_ix (Kb.s h.toKb) (re_var 0) re_int) ra_nil) (arity_cons arity_nil) rfl))) (rw_or1 (rt_not (rt_val (k_call0 h.toKb (d_is_whole T) (by decide) (ra_cons (k_ix (Kb.s h.toKb) (re_var 0) re_int) ra_nil) (arity_cons arity_nil) rfl))))))) (rss_one (rs_ret re_bl)) rss_nil) (rss_one (rs_ret (k_chain3 x_le x_lt x_lt re_int (k_ix (Kb.s h.toKb) (re_var 0) re_int) (k_ix (Kb.s h.toKb) (re_var 0) re_int) (re_var 1))))))
theorem d_is_hold : DefOk P w mg base (CC K) 3 2 "is_hold" m_is_hold [] := by
  obtain ⟨fd, F⟩ := T.c.d.def_ 4 (d := D_is_hold) rfl
  have b := F.bindsN (ps := ["thing", "length"]) fun _ _ _ _ _ _ us hl => match us, hl with | [_, _], _ => rfl
  exact ⟨⟨_, f_is_hold T, F.kp, fd, _, [], [], fn_okF (C := CC K) F sc_is_hold (fun cdv A outer s H E hr => w_is_hold T hr), b, .nil, rfl⟩⟩
/-! ### within -/
omit T in
theorem sc_within : FnScope ["one", "other"] ["one", "other"] (defScope s_within) := ⟨rfl, rfl, rfl, by decide +kernel, rfl, by decide +kernel, by decide +kernel⟩
theorem w_within {f : Addr} {cdv : Value} {A : Around} {outer : List Env} {s : Shared} {H : Hp} {E : XK} (hr : Room 1 (A.deeper (envOfC "within" (defScope s_within) s.heap.objs.size f cdv))) :
    RSs (CC K) (cxOf (L2.CX P w) P w K mg base ["one", "other"] "within" (defScope s_within) f cdv A outer s H E) (fun cls d _ H => E cls d H) false (defBody s_within) b_within := by
  have h := Kx.of (P := P) (w := w) (C := CC K) (mg := mg) (base := base) (N := ["one", "other"]) (outer := outer) (E := E) (H := H) sc_within.nd hr
  exact (rss_one (rs_ret (re_and (k_cmp x_le (k_ix (Kb.s h.toKb) (re_var 1) re_int) (k_ix (Kb.s h.toKb) (re_var 0) re_int)) (re_one (k_cmp x_le (k_ix (Kb.s h.toKb) (re_var 0) re_int) (k_ix (Kb.s h.toKb) (re_var 1) re_int))))))
theorem d_within : DefOk P w mg base (CC K) 2 2 "within" m_within [] := by
  obtain ⟨fd, F⟩ := T.c.d.def_ 5 (d := D_within) rfl
  have b := F.bindsN (ps := ["one", "other"]) fun _ _ _ _ _ _ us hl => match us, hl with | [_, _], _ => rfl
  exact ⟨⟨_, f_within T, F.kp, fd, _, [], [], fn_okF (C := CC K) F sc_within (fun cdv A outer s H E hr => w_within T hr), b, .nil, rfl⟩⟩
/-! ### together -/
omit T in
theorem sc_together : FnScope ["one", "other"] ["one", "other"] (defScope s_together) := ⟨rfl, rfl, rfl, by decide +kernel, rfl, by decide +kernel, by decide +kernel⟩
theorem w_together {f : Addr} {cdv : Value} {A : Around} {outer : List Env} {s : Shared} {H : Hp} {E : XK} (hr : Room 2 (A.deeper (envOfC "together" (defScope s_together) s.heap.objs.size f cdv))) :
    RSs (CC K) (cxOf (L2.CX P w) P w K mg base ["one", "other"] "together" (defScope s_together) f cdv A outer s H E) (fun cls d _ H => E cls d H) false (defBody s_together) b_together := by
  have h := Kx.of (P := P) (w := w) (C := CC K) (mg := mg) (base := base) (N := ["one", "other"]) (outer := outer) (E := E) (H := H) sc_together.nd hr
  exact (rss_cons (rs_if (RT.of (rw_or (k_tcmp x_le (k_ix (Kb.s h.toKb) (re_var 0) re_int) (k_ix (Kb.s h.toKb) (re_var 1) re_int)) (rw_or1 (k_tcmp x_le (k_ix (Kb.s h.toKb) (re_var 1) re_int) (k_ix (Kb.s h.toKb) (re_var 0) re_int))))) (rss_one (rs_ret re_bl)) rss_nil) (rss_cons (rs_if (k_tcmp (x_eq (Kb.s h.toKb)) (k_ix (Kb.s h.toKb) (re_var 0) re_int) (k_ix (Kb.s h.toKb) (re_var 1) re_int)) (rss_one (rs_ret re_bl)) rss_nil) (rss_one (rs_ret (re_or (k_call0 h.toKb (d_within T) (by decide) (ra_cons (re_var 0) (ra_cons (re_var 1) ra_nil)) (arity_cons (arity_cons arity_nil)) rfl) (re_one (k_call0 h.toKb (d_within T) (by decide) (ra_cons (re_var 1) (ra_cons (re_var 0) ra_nil)) (arity_cons (arity_cons arity_nil)) rfl)))))))
theorem d_together : DefOk P w mg base (CC K) 3 2 "together" m_together [] := by
  obtain ⟨fd, F⟩ := T.c.d.def_ 6 (d := D_together) rfl
  have b := F.bindsN (ps := ["one", "other"]) fun _ _ _ _ _ _ us hl => match us, hl with | [_, _], _ => rfl
  exact ⟨⟨_, f_together T, F.kp, fd, _, [], [], fn_okF (C := CC K) F sc_together (fun cdv A outer s H E hr => w_together T hr), b, .nil, rfl⟩⟩
/-! ### holds_fit -/
omit T in
theorem sc_holds_fit : FnScope ["holds", "length", "k", "hold"] ["holds", "length"] (defScope s_holds_fit) := ⟨rfl, rfl, rfl, by decide +kernel, rfl, by decide +kernel, by decide +kernel⟩
theorem w_holds_fit {f : Addr} {cdv : Value} {A : Around} {outer : List Env} {s : Shared} {H : Hp} {E : XK} (hr : Room 3 (A.deeper (envOfC "holds_fit" (defScope s_holds_fit) s.heap.objs.size f cdv))) :
    RSs (CC K) (cxOf (L2.CX P w) P w K mg base ["holds", "length", "k", "hold"] "holds_fit" (defScope s_holds_fit) f cdv A outer s H E) (fun cls d _ H => E cls d H) false (defBody s_holds_fit) b_holds_fit := by
  have h := Kx.of (P := P) (w := w) (C := CC K) (mg := mg) (base := base) (N := ["holds", "length", "k", "hold"]) (outer := outer) (E := E) (H := H) sc_holds_fit.nd hr
  exact (rss_cons (rs_if (RT.of (rw_or (rt_not (rt_val (k_isi h.toKb (f_isinstance T) (f_list T) (re_var 0)))) (rw_or1 (k_tcmp x_gt (k_len h.toKb (f_len T) (ra_cons (re_var 0) ra_nil)) (k_gint (f_MOST_HOLDS T)))))) (rss_one (rs_ret re_bl)) rss_nil) (rss_cons (rs_for h.hp h.toKb.calm (ri_range1 rfl (f_range T) (ra_cons (k_len h.toKb (f_len T) (ra_cons (re_var 0) ra_nil)) ra_nil)) (k_gname h.toKb.nd) (rss_cons (rs_if (rt_not (rt_val (k_call0 h.toKb (d_is_hold T) (by decide) (ra_cons (k_ix (Kb.s h.toKb) (re_var 0) (re_var 2)) (ra_cons (re_var 1) ra_nil)) (arity_cons (arity_cons arity_nil)) rfl))) (rss_one (rs_ret re_bl)) rss_nil) (rss_one (rs_for h.hp h.toKb.calm (ri_iter (RE.of (rf_sl rfl (re_var 0) ro_none (ro_some (re_var 2))))) (k_gname h.toKb.nd) (rss_one (rs_if (rt_not (rt_val (k_call0 h.toKb (d_together T) (by decide) (ra_cons (re_var 3) (ra_cons (k_ix (Kb.s h.toKb) (re_var 0) (re_var 2)) ra_nil)) (arity_cons (arity_cons arity_nil)) rfl))) (rss_one (rs_ret re_bl)) rss_nil)))))) (rss_one (rs_ret re_bl))))
theorem d_holds_fit : DefOk P w mg base (CC K) 4 2 "holds_fit" m_holds_fit [] := by
  obtain ⟨fd, F⟩ := T.c.d.def_ 7 (d := D_holds_fit) rfl
  have b := F.bindsN (ps := ["holds", "length"]) fun _ _ _ _ _ _ us hl => match us, hl with | [_, _], _ => rfl
  exact ⟨⟨_, f_holds_fit T, F.kp, fd, _, [], [], fn_okF (C := CC K) F sc_holds_fit (fun cdv A outer s H E hr => w_holds_fit T hr), b, .nil, rfl⟩⟩
/-! ### Work.__init__ -/
omit T in
theorem sc_Work_new : FnScope ["self", "name", "gap", "length", "due", "late", "holds"] ["self", "name", "gap", "length", "due", "late", "holds"] (defScope s_Work_new) := ⟨rfl, rfl, rfl, by decide +kernel, rfl, by decide +kernel, by decide +kernel⟩
theorem w_Work_new {f : Addr} {cdv : Value} {A : Around} {outer : List Env} {s : Shared} {H : Hp} {E : XK} (hr : Room 4 (A.deeper (envOfC "Work.__init__" (defScope s_Work_new) s.heap.objs.size f cdv))) :
    RSs (CC K) (cxOf (L2.CX P w) P w K mg base ["self", "name", "gap", "length", "due", "late", "holds"] "Work.__init__" (defScope s_Work_new) f cdv A outer s H E) (fun cls d _ H => E cls d H) false (defBody s_Work_new) b_Work_new := by
  have h := Kx.of (P := P) (w := w) (C := CC K) (mg := mg) (base := base) (N := ["self", "name", "gap", "length", "due", "late", "holds"]) (outer := outer) (E := E) (H := H) sc_Work_new.nd hr
  exact (rss_cons (rs_if (k_tcmp x_isN (re_var 4) re_non) (rss_one (k_set h.toKb.nd (re_var 2))) rss_nil) (rss_cons (rs_if (k_tcmp x_isN (re_var 6) re_non) (rss_one (k_set h.toKb.nd (RE.of (rf_lst ra_nil)))) rss_nil) (rss_cons (rs_if (RT.of (rw_or (rt_not (rt_val (k_call0 h.toKb (d_is_name T) (by decide) (ra_cons (re_var 1) ra_nil) (arity_cons arity_nil) rfl))) (rw_or (rt_not (rt_val (k_call0 h.toKb (d_from_on T) (by decide) (ra_cons (re_var 2) (ra_cons re_int ra_nil)) (arity_cons (arity_cons arity_nil)) rfl))) (rw_or1 (rt_not (rt_val (k_call0 h.toKb (d_from_on T) (by decide) (ra_cons (re_var 3) (ra_cons re_int ra_nil)) (arity_cons (arity_cons arity_nil)) rfl))))))) (rss_one (rs_raise h.toKb.calm h.toKb.tk (e_BadWork T) rfl (f_BadWork T))) rss_nil) (rss_cons (rs_if (RT.of (rw_or (rt_not (rt_val (k_call0 h.toKb (d_from_on T) (by decide) (ra_cons (re_var 4) (ra_cons re_int ra_nil)) (arity_cons (arity_cons arity_nil)) rfl))) (rw_or (k_tcmp x_gt (re_var 4) (re_var 2)) (rw_or1 (rt_not (rt_val (k_call0 h.toKb (d_from_on T) (by decide) (ra_cons (re_var 5) (ra_cons re_int ra_nil)) (arity_cons (arity_cons arity_nil)) rfl))))))) (rss_one (rs_raise h.toKb.calm h.toKb.tk (e_BadWork T) rfl (f_BadWork T))) rss_nil) (rss_cons (rs_if (rt_not (rt_val (k_call0 h.toKb (d_holds_fit T) (by decide) (ra_cons (re_var 6) (ra_cons (re_var 3) ra_nil)) (arity_cons (arity_cons arity_nil)) rfl))) (rss_one (rs_raise h.toKb.calm h.toKb.tk (e_BadWork T) rfl (f_BadWork T))) rss_nil) (rss_cons (rs_putF rfl (a_name T) (re_var 0) (re_var 1)) (rss_cons (rs_putF rfl (a_gap T) (re_var 0) (re_var 2)) (rss_cons (rs_putF rfl (a_length T) (re_var 0) (re_var 3)) (rss_cons (rs_putF rfl (a_due T) (re_var 0) (re_var 4)) (rss_cons (rs_putF rfl (a_late T) (re_var 0) (re_var 5)) (rss_one (rs_putF rfl (a_sections T) (re_var 0) (RE.of (kf_list h.toKb (f_list T) (ra_cons (re_var 6) ra_nil)))))))))))))))
theorem d_Work_new : MakeOk P w mg base (CC K) 5 7 6 "Work" m_Work_new [] := by
  obtain ⟨fd, F⟩ := T.c.d.def_ 8 (d := D_Work_new) rfl
  obtain ⟨ds, hv, hb⟩ := F.binds1 (ps := ["self", "name", "gap", "length", "due", "late", "holds"]) 7 3 (by simp [D_Work_new, He.DefD.dvs]) rfl fun _ _ _ _ _ _ _ us its hl hi => match us, hl, its, hi with | [_, _, _, _, _, _, _], _, [_, _, _], _ => ⟨_, rfl, rfl⟩
  exact ⟨f_Work T, _, fd, _, _, ds, mk_Work T, fn_okF (C := CC K) F sc_Work_new (fun cdv A outer s H E hr => w_Work_new T hr), hb, hv, rfl⟩
/-! ### Work.held -/
omit T in
theorem sc_Work_held : FnScope ["self"] ["self"] (defScope s_Work_held) := ⟨rfl, rfl, rfl, by decide +kernel, rfl, by decide +kernel, by decide +kernel⟩
theorem w_Work_held {f : Addr} {cdv : Value} {A : Around} {outer : List Env} {s : Shared} {H : Hp} {E : XK} (hr : Room 1 (A.deeper (envOfC "Work.held" (defScope s_Work_held) s.heap.objs.size f cdv))) :
    RSs (CC K) (cxOf (L2.CX P w) P w K mg base ["self"] "Work.held" (defScope s_Work_held) f cdv A outer s H E) (fun cls d _ H => E cls d H) false (defBody s_Work_held) b_Work_held := by
  have h := Kx.of (P := P) (w := w) (C := CC K) (mg := mg) (base := base) (N := ["self"]) (outer := outer) (E := E) (H := H) sc_Work_held.nd hr
  exact (rss_one (rs_ret (RE.of (kf_list h.toKb (f_list T) (ra_cons (re_fld rfl (a_sections T) (re_var 0)) ra_nil)))))
theorem dm_Work_Work_held : MethOk P w mg base (CC K) 2 1 6 "held" m_Work_held [] := by
  obtain ⟨fd, F⟩ := T.c.d.def_ 9 (d := D_Work_held) rfl
  have b := F.bindsN (ps := ["self"]) fun _ _ _ _ _ _ us hl => match us, hl with | [_], _ => rfl
  exact ⟨_, fd, _, [], [], c_Work T, mt_Work_held T, fn_okF (C := CC K) F sc_Work_held (fun cdv A outer s H E hr => w_Work_held T hr), b, .nil, rfl⟩
/-! ### made_again -/
omit T in
theorem sc_made_again : FnScope ["work"] ["work"] (defScope s_made_again) := ⟨rfl, rfl, rfl, by decide +kernel, rfl, by decide +kernel, by decide +kernel⟩
theorem w_made_again {f : Addr} {cdv : Value} {A : Around} {outer : List Env} {s : Shared} {H : Hp} {E : XK} (hr : Room 6 (A.deeper (envOfC "made_again" (defScope s_made_again) s.heap.objs.size f cdv))) :
    RSs (CC K) (cxOf (L2.CX P w) P w K mg base ["work"] "made_again" (defScope s_made_again) f cdv A outer s H E) (fun cls d _ H => E cls d H) false (defBody s_made_again) b_made_again := by
  have h := Kx.of (P := P) (w := w) (C := CC K) (mg := mg) (base := base) (N := ["work"]) (outer := outer) (E := E) (H := H) sc_made_again.nd hr
  exact (rss_one (rs_ret (k_make0 h.toKb (d_Work_new T) (by decide) (ra_cons (re_fld rfl (a_name T) (re_var 0)) (ra_cons (re_fld rfl (a_gap T) (re_var 0)) (ra_cons (re_fld rfl (a_length T) (re_var 0)) (ra_cons (re_fld rfl (a_due T) (re_var 0)) (ra_cons (re_fld rfl (a_late T) (re_var 0)) (ra_cons (k_ownR0 (pl := _) h.toKb (dm_Work_Work_held T) (by decide) (re_var 0) rfl) ra_nil)))))) (arity_cons (arity_cons (arity_cons (arity_cons (arity_cons (arity_cons arity_nil)))))) rfl)))
theorem d_made_again : DefOk P w mg base (CC K) 7 1 "made_again" m_made_again [] := by
  obtain ⟨fd, F⟩ := T.c.d.def_ 10 (d := D_made_again) rfl
  have b := F.bindsN (ps := ["work"]) fun _ _ _ _ _ _ us hl => match us, hl with | [_], _ => rfl
  exact ⟨⟨_, f_made_again T, F.kp, fd, _, [], [], fn_okF (C := CC K) F sc_made_again (fun cdv A outer s H E hr => w_made_again T hr), b, .nil, rfl⟩⟩
/-! ### Duty.crowd -/
omit T in
theorem sc_Duty_crowd : FnScope ["self", "greatest", "many", "one"] ["self"] (defScope s_Duty_crowd) := ⟨rfl, rfl, rfl, by decide +kernel, rfl, by decide +kernel, by decide +kernel⟩
theorem w_Duty_crowd {f : Addr} {cdv : Value} {A : Around} {outer : List Env} {s : Shared} {H : Hp} {E : XK} (hr : Room 2 (A.deeper (envOfC "Duty.crowd" (defScope s_Duty_crowd) s.heap.objs.size f cdv))) :
    RSs (CC K) (cxOf (L2.CX P w) P w K mg base ["self", "greatest", "many", "one"] "Duty.crowd" (defScope s_Duty_crowd) f cdv A outer s H E) (fun cls d _ H => E cls d H) false (defBody s_Duty_crowd) b_Duty_crowd := by
  have h := Kx.of (P := P) (w := w) (C := CC K) (mg := mg) (base := base) (N := ["self", "greatest", "many", "one"]) (outer := outer) (E := E) (H := H) sc_Duty_crowd.nd hr
  exact (rss_cons (k_set h.toKb.nd (re_maxDf h.toKb.calm (Kb.u1 h.toKb) rfl (f_max T) (RE.of (rf_lc (own := [("one", 3)]) h.toKb.calm h.toKb.nd (ri_iter (re_fld rfl (a_works T) (re_var 0))) (show BlkOk ["self", "greatest", "many", "one"] (defScope s_Duty_crowd) _ [("one", 3)] from ⟨rfl, by decide +kernel, by decide +kernel, by decide +kernel, by decide +kernel⟩) (fun _ _ _ _ _ => (k_gname (Kb.blk h.toKb).nd)) (by decide) (fun _ _ _ _ _ => rts_nil) (fun _ _ _ _ _ => (re_fld rfl (a_due T) (re_var 3))))) re_int)) (rss_cons (k_set h.toKb.nd re_int) (rss_cons (rs_for h.hp h.toKb.calm (ri_iter (re_fld rfl (a_works T) (re_var 0))) (k_gname h.toKb.nd) (rss_one (k_addA h.toKb.nd (k_call0 h.toKb (d_rounds_up T) (by decide) (ra_cons (re_add (re_var 1) (re_fld rfl (a_late T) (re_var 3))) (ra_cons (re_fld rfl (a_gap T) (re_var 3)) ra_nil)) (arity_cons (arity_cons arity_nil)) rfl)))) (rss_one (rs_ret (re_var 2))))))
theorem dm_Duty_Duty_crowd : MethOk P w mg base (CC K) 3 1 7 "crowd" m_Duty_crowd [] := by
  obtain ⟨fd, F⟩ := T.c.d.def_ 11 (d := D_Duty_crowd) rfl
  have b := F.bindsN (ps := ["self"]) fun _ _ _ _ _ _ us hl => match us, hl with | [_], _ => rfl
  exact ⟨_, fd, _, [], [], c_Duty T, mt_Duty_crowd T, fn_okF (C := CC K) F sc_Duty_crowd (fun cdv A outer s H E hr => w_Duty_crowd T hr), b, .nil, rfl⟩
/-! ### Duty.__init__ -/
omit T in
theorem sc_Duty_new : FnScope ["self", "works", "at", "one"] ["self", "works"] (defScope s_Duty_new) := ⟨rfl, rfl, rfl, by decide +kernel, rfl, by decide +kernel, by decide +kernel⟩
theorem w_Duty_new {f : Addr} {cdv : Value} {A : Around} {outer : List Env} {s : Shared} {H : Hp} {E : XK} (hr : Room 7 (A.deeper (envOfC "Duty.__init__" (defScope s_Duty_new) s.heap.objs.size f cdv))) :
    RSs (CC K) (cxOf (L2.CX P w) P w K mg base ["self", "works", "at", "one"] "Duty.__init__" (defScope s_Duty_new) f cdv A outer s H E) (fun cls d _ H => E cls d H) false (defBody s_Duty_new) b_Duty_new := by
  have h := Kx.of (P := P) (w := w) (C := CC K) (mg := mg) (base := base) (N := ["self", "works", "at", "one"]) (outer := outer) (E := E) (H := H) sc_Duty_new.nd hr
  exact (rss_cons (rs_if (rt_not (rt_val (k_isi h.toKb (f_isinstance T) (f_list T) (re_var 1)))) (rss_one (rs_raise h.toKb.calm h.toKb.tk (e_BadDuty T) rfl (f_BadDuty T))) rss_nil) (rss_cons (rs_putF rfl (a_numbers T) (re_var 0) (re_cell rf_dct0)) (rss_cons (rs_for h.hp h.toKb.calm (ri_range1 rfl (f_range T) (ra_cons (k_len h.toKb (f_len T) (ra_cons (re_var 1) ra_nil)) ra_nil)) (k_gname h.toKb.nd) (rss_cons (rs_if (RT.of (rw_or (rt_not (rt_val (k_isK (f_isinstance T) (q_Work T) (f_Work T) (k_ix (Kb.s h.toKb) (re_var 1) (re_var 2))))) (rw_or1 (k_tcmp (x_in (Kb.s h.toKb)) (re_fld rfl (a_name T) (k_ix (Kb.s h.toKb) (re_var 1) (re_var 2))) (re_fld rfl (a_numbers T) (re_var 0)))))) (rss_one (rs_raise h.toKb.calm h.toKb.tk (e_BadDuty T) rfl (f_BadDuty T))) rss_nil) (rss_one (rs_setKey (Kb.u1 h.toKb) (re_fld rfl (a_numbers T) (re_var 0)) (re_fld rfl (a_name T) (k_ix (Kb.s h.toKb) (re_var 1) (re_var 2))) (re_var 2))))) (rss_cons (rs_putF rfl (a_works T) (re_var 0) (RE.of (rf_lc (own := [("one", 3)]) h.toKb.calm h.toKb.nd (ri_iter (re_var 1)) (show BlkOk ["self", "works", "at", "one"] (defScope s_Duty_new) _ [("one", 3)] from ⟨rfl, by decide +kernel, by decide +kernel, by decide +kernel, by decide +kernel⟩) (fun _ _ _ _ _ => (k_gname (Kb.blk h.toKb).nd)) (by decide) (fun _ _ _ _ _ => rts_nil) (fun _ _ _ _ _ => (k_call0 (Kb.blk h.toKb) (d_made_again T) (by decide) (ra_cons (re_var 3) ra_nil) (arity_cons arity_nil) rfl))))) (rss_one (rs_if (RT.of (rw_or (k_tcmp x_gt (k_len h.toKb (f_len T) (ra_cons (re_var 1) ra_nil)) (k_gint (f_MOST_WORKS T))) (rw_or1 (k_tcmp x_gt (k_ownC0 (pl := _) h.toKb (dm_Duty_Duty_crowd T) (by decide) (re_var 0) rfl) (k_gint (f_MOST_CROWD T)))))) (rss_one (rs_raise h.toKb.calm h.toKb.tk (e_TooMany T) rfl (f_TooMany T))) rss_nil))))))
theorem d_Duty_new : MakeOk P w mg base (CC K) 8 2 7 "Duty" m_Duty_new [] := by
  obtain ⟨fd, F⟩ := T.c.d.def_ 12 (d := D_Duty_new) rfl
  have b := F.bindsN (ps := ["self", "works"]) fun _ _ _ _ _ _ us hl => match us, hl with | [_, _], _ => rfl
  exact ⟨f_Duty T, _, fd, _, [], [], mk_Duty T, fn_okF (C := CC K) F sc_Duty_new (fun cdv A outer s H E hr => w_Duty_new T hr), b, .nil, rfl⟩
/-! ### Duty.size -/
omit T in
theorem sc_Duty_size : FnScope ["self"] ["self"] (defScope s_Duty_size) := ⟨rfl, rfl, rfl, by decide +kernel, rfl, by decide +kernel, by decide +kernel⟩
theorem w_Duty_size {f : Addr} {cdv : Value} {A : Around} {outer : List Env} {s : Shared} {H : Hp} {E : XK} (hr : Room 1 (A.deeper (envOfC "Duty.size" (defScope s_Duty_size) s.heap.objs.size f cdv))) :
    RSs (CC K) (cxOf (L2.CX P w) P w K mg base ["self"] "Duty.size" (defScope s_Duty_size) f cdv A outer s H E) (fun cls d _ H => E cls d H) false (defBody s_Duty_size) b_Duty_size := by
  have h := Kx.of (P := P) (w := w) (C := CC K) (mg := mg) (base := base) (N := ["self"]) (outer := outer) (E := E) (H := H) sc_Duty_size.nd hr
  exact (rss_one (rs_ret (k_len h.toKb (f_len T) (ra_cons (re_fld rfl (a_works T) (re_var 0)) ra_nil))))
theorem dm_Duty_Duty_size : MethOk P w mg base (CC K) 2 1 7 "size" m_Duty_size [] := by
  obtain ⟨fd, F⟩ := T.c.d.def_ 13 (d := D_Duty_size) rfl
  have b := F.bindsN (ps := ["self"]) fun _ _ _ _ _ _ us hl => match us, hl with | [_], _ => rfl
  exact ⟨_, fd, _, [], [], c_Duty T, mt_Duty_size T, fn_okF (C := CC K) F sc_Duty_size (fun cdv A outer s H E hr => w_Duty_size T hr), b, .nil, rfl⟩
/-! ### Duty.work -/
omit T in
theorem sc_Duty_work : FnScope ["self", "at"] ["self", "at"] (defScope s_Duty_work) := ⟨rfl, rfl, rfl, by decide +kernel, rfl, by decide +kernel, by decide +kernel⟩
theorem w_Duty_work {f : Addr} {cdv : Value} {A : Around} {outer : List Env} {s : Shared} {H : Hp} {E : XK} (hr : Room 1 (A.deeper (envOfC "Duty.work" (defScope s_Duty_work) s.heap.objs.size f cdv))) :
    RSs (CC K) (cxOf (L2.CX P w) P w K mg base ["self", "at"] "Duty.work" (defScope s_Duty_work) f cdv A outer s H E) (fun cls d _ H => E cls d H) false (defBody s_Duty_work) b_Duty_work := by
  have h := Kx.of (P := P) (w := w) (C := CC K) (mg := mg) (base := base) (N := ["self", "at"]) (outer := outer) (E := E) (H := H) sc_Duty_work.nd hr
  exact (rss_one (rs_ret (k_ix (Kb.s h.toKb) (re_fld rfl (a_works T) (re_var 0)) (re_var 1))))
theorem dm_Duty_Duty_work : MethOk P w mg base (CC K) 2 2 7 "work" m_Duty_work [] := by
  obtain ⟨fd, F⟩ := T.c.d.def_ 14 (d := D_Duty_work) rfl
  have b := F.bindsN (ps := ["self", "at"]) fun _ _ _ _ _ _ us hl => match us, hl with | [_, _], _ => rfl
  exact ⟨_, fd, _, [], [], c_Duty T, mt_Duty_work T, fn_okF (C := CC K) F sc_Duty_work (fun cdv A outer s H E hr => w_Duty_work T hr), b, .nil, rfl⟩
/-! ### is_number -/
omit T in
theorem sc_is_number : FnScope ["word", "sign"] ["word"] (defScope s_is_number) := ⟨rfl, rfl, rfl, by decide +kernel, rfl, by decide +kernel, by decide +kernel⟩
theorem w_is_number {f : Addr} {cdv : Value} {A : Around} {outer : List Env} {s : Shared} {H : Hp} {E : XK} (hr : Room 1 (A.deeper (envOfC "is_number" (defScope s_is_number) s.heap.objs.size f cdv))) :
    RSs (CC K) (cxOf (L2.CX P w) P w K mg base ["word", "sign"] "is_number" (defScope s_is_number) f cdv A outer s H E) (fun cls d _ H => E cls d H) false (defBody s_is_number) b_is_number := by
  have h := Kx.of (P := P) (w := w) (C := CC K) (mg := mg) (base := base) (N := ["word", "sign"]) (outer := outer) (E := E) (H := H) sc_is_number.nd hr
  exact (rss_cons (rs_if (rt_not (k_tchain x_le x_le re_int (k_len h.toKb (f_len T) (ra_cons (re_var 0) ra_nil)) (k_gint (f_MOST_FIGURES T)))) (rss_one (rs_ret re_bl)) rss_nil) (rss_cons (rs_for h.hp h.toKb.calm (ri_iter (re_var 0)) (k_gname h.toKb.nd) (rss_one (rs_if (k_tcmp (x_nin (Kb.s h.toKb)) (re_var 1) (k_gstr (f_FIGURES T))) (rss_one (rs_ret re_bl)) rss_nil))) (rss_one (rs_ret (re_or (k_cmp (x_eq (Kb.s h.toKb)) (re_var 0) re_str) (re_one (re_not (k_starts (re_var 0) (ra_cons re_str ra_nil)))))))))
theorem d_is_number : DefOk P w mg base (CC K) 2 1 "is_number" m_is_number [] := by
  obtain ⟨fd, F⟩ := T.c.d.def_ 15 (d := D_is_number) rfl
  have b := F.bindsN (ps := ["word"]) fun _ _ _ _ _ _ us hl => match us, hl with | [_], _ => rfl
  exact ⟨⟨_, f_is_number T, F.kp, fd, _, [], [], fn_okF (C := CC K) F sc_is_number (fun cdv A outer s H E hr => w_is_number T hr), b, .nil, rfl⟩⟩
/-! ### number_in -/
omit T in
theorem sc_number_in : FnScope ["word"] ["word"] (defScope s_number_in) := ⟨rfl, rfl, rfl, by decide +kernel, rfl, by decide +kernel, by decide +kernel⟩
theorem w_number_in {f : Addr} {cdv : Value} {A : Around} {outer : List Env} {s : Shared} {H : Hp} {E : XK} (hr : Room 2 (A.deeper (envOfC "number_in" (defScope s_number_in) s.heap.objs.size f cdv))) :
    RSs (CC K) (cxOf (L2.CX P w) P w K mg base ["word"] "number_in" (defScope s_number_in) f cdv A outer s H E) (fun cls d _ H => E cls d H) false (defBody s_number_in) b_number_in := by
  have h := Kx.of (P := P) (w := w) (C := CC K) (mg := mg) (base := base) (N := ["word"]) (outer := outer) (E := E) (H := H) sc_number_in.nd hr
  exact (rss_cons (rs_if (rt_not (rt_val (k_call0 h.toKb (d_is_number T) (by decide) (ra_cons (re_var 0) ra_nil) (arity_cons arity_nil) rfl))) (rss_one (rs_raise h.toKb.calm h.toKb.tk (e_NoText T) rfl (f_NoText T))) rss_nil) (rss_one (rs_ret (k_int (f_int T) (ra_cons (re_var 0) ra_nil)))))
theorem d_number_in : DefOk P w mg base (CC K) 3 1 "number_in" m_number_in [] := by
  obtain ⟨fd, F⟩ := T.c.d.def_ 16 (d := D_number_in) rfl
  have b := F.bindsN (ps := ["word"]) fun _ _ _ _ _ _ us hl => match us, hl with | [_], _ => rfl
  exact ⟨⟨_, f_number_in T, F.kp, fd, _, [], [], fn_okF (C := CC K) F sc_number_in (fun cdv A outer s H E hr => w_number_in T hr), b, .nil, rfl⟩⟩
/-! ### words_of -/
omit T in
theorem sc_words_of : FnScope ["text"] ["text"] (defScope s_words_of) := ⟨rfl, rfl, rfl, by decide +kernel, rfl, by decide +kernel, by decide +kernel⟩
theorem w_words_of {f : Addr} {cdv : Value} {A : Around} {outer : List Env} {s : Shared} {H : Hp} {E : XK} (hr : Room 1 (A.deeper (envOfC "words_of" (defScope s_words_of) s.heap.objs.size f cdv))) :
    RSs (CC K) (cxOf (L2.CX P w) P w K mg base ["text"] "words_of" (defScope s_words_of) f cdv A outer s H E) (fun cls d _ H => E cls d H) false (defBody s_words_of) b_words_of := by
  have h := Kx.of (P := P) (w := w) (C := CC K) (mg := mg) (base := base) (N := ["text"]) (outer := outer) (E := E) (H := H) sc_words_of.nd hr
  exact (rss_cons (rs_if (rt_not (rt_val (k_isi h.toKb (f_isinstance T) (f_str T) (re_var 0)))) (rss_one (rs_raise h.toKb.calm h.toKb.tk (e_NoText T) rfl (f_NoText T))) rss_nil) (rss_one (rs_ret (RE.of (kf_split (re_var 0) (ra_cons re_str ra_nil))))))
theorem d_words_of : DefOk P w mg base (CC K) 2 1 "words_of" m_words_of [] := by
  obtain ⟨fd, F⟩ := T.c.d.def_ 17 (d := D_words_of) rfl
  have b := F.bindsN (ps := ["text"]) fun _ _ _ _ _ _ us hl => match us, hl with | [_], _ => rfl
  exact ⟨⟨_, f_words_of T, F.kp, fd, _, [], [], fn_okF (C := CC K) F sc_words_of (fun cdv A outer s H E hr => w_words_of T hr), b, .nil, rfl⟩⟩
/-! ### show_hold -/
omit T in
theorem sc_show_hold : FnScope ["hold"] ["hold"] (defScope s_show_hold) := ⟨rfl, rfl, rfl, by decide +kernel, rfl, by decide +kernel, by decide +kernel⟩
theorem w_show_hold {f : Addr} {cdv : Value} {A : Around} {outer : List Env} {s : Shared} {H : Hp} {E : XK} (hr : Room 1 (A.deeper (envOfC "show_hold" (defScope s_show_hold) s.heap.objs.size f cdv))) :
    RSs (CC K) (cxOf (L2.CX P w) P w K mg base ["hold"] "show_hold" (defScope s_show_hold) f cdv A outer s H E) (fun cls d _ H => E cls d H) false (defBody s_show_hold) b_show_hold := by
  have h := Kx.of (P := P) (w := w) (C := CC K) (mg := mg) (base := base) (N := ["hold"]) (outer := outer) (E := E) (H := H) sc_show_hold.nd hr
  exact (rss_one (rs_ret (re_add (re_add (re_add (re_add (k_ix (Kb.s h.toKb) (re_var 0) re_int) re_str) (k_str (f_str T) (ra_cons (k_ix (Kb.s h.toKb) (re_var 0) re_int) ra_nil))) re_str) (k_str (f_str T) (ra_cons (k_ix (Kb.s h.toKb) (re_var 0) re_int) ra_nil)))))
theorem d_show_hold : DefOk P w mg base (CC K) 2 1 "show_hold" m_show_hold [] := by
  obtain ⟨fd, F⟩ := T.c.d.def_ 18 (d := D_show_hold) rfl
  have b := F.bindsN (ps := ["hold"]) fun _ _ _ _ _ _ us hl => match us, hl with | [_], _ => rfl
  exact ⟨⟨_, f_show_hold T, F.kp, fd, _, [], [], fn_okF (C := CC K) F sc_show_hold (fun cdv A outer s H E hr => w_show_hold T hr), b, .nil, rfl⟩⟩
/-! ### read_hold -/
omit T in
theorem sc_read_hold : FnScope ["word", "thing", "colon", "turns", "start", "dash", "end"] ["word"] (defScope s_read_hold) := ⟨rfl, rfl, rfl, by decide +kernel, rfl, by decide +kernel, by decide +kernel⟩
theorem w_read_hold {f : Addr} {cdv : Value} {A : Around} {outer : List Env} {s : Shared} {H : Hp} {E : XK} (hr : Room 3 (A.deeper (envOfC "read_hold" (defScope s_read_hold) s.heap.objs.size f cdv))) :
    RSs (CC K) (cxOf (L2.CX P w) P w K mg base ["word", "thing", "colon", "turns", "start", "dash", "end"] "read_hold" (defScope s_read_hold) f cdv A outer s H E) (fun cls d _ H => E cls d H) false (defBody s_read_hold) b_read_hold := by
  have h := Kx.of (P := P) (w := w) (C := CC K) (mg := mg) (base := base) (N := ["word", "thing", "colon", "turns", "start", "dash", "end"]) (outer := outer) (E := E) (H := H) sc_read_hold.nd hr
  exact (rss_cons (rs_asg (k_part (re_var 0) (ra_cons re_str ra_nil)) (rg_tup rfl h.toKb.calm (rgs_cons (k_gname h.toKb.nd) (rgs_cons (k_gname h.toKb.nd) (rgs_cons (k_gname h.toKb.nd) rgs_nil))))) (rss_cons (rs_asg (k_part (re_var 3) (ra_cons re_str ra_nil)) (rg_tup rfl h.toKb.calm (rgs_cons (k_gname h.toKb.nd) (rgs_cons (k_gname h.toKb.nd) (rgs_cons (k_gname h.toKb.nd) rgs_nil))))) (rss_one (rs_ret (re_tup (ra_cons (re_var 1) (ra_cons (k_call0 h.toKb (d_number_in T) (by decide) (ra_cons (re_var 4) ra_nil) (arity_cons arity_nil) rfl) (ra_cons (k_call0 h.toKb (d_number_in T) (by decide) (ra_cons (re_var 6) ra_nil) (arity_cons arity_nil) rfl) ra_nil))))))))
theorem d_read_hold : DefOk P w mg base (CC K) 4 1 "read_hold" m_read_hold [] := by
  obtain ⟨fd, F⟩ := T.c.d.def_ 19 (d := D_read_hold) rfl
  have b := F.bindsN (ps := ["word"]) fun _ _ _ _ _ _ us hl => match us, hl with | [_], _ => rfl
  exact ⟨⟨_, f_read_hold T, F.kp, fd, _, [], [], fn_okF (C := CC K) F sc_read_hold (fun cdv A outer s H E hr => w_read_hold T hr), b, .nil, rfl⟩⟩
/-! ### show_work -/
omit T in
theorem sc_show_work : FnScope ["work", "words", "number", "hold"] ["work"] (defScope s_show_work) := ⟨rfl, rfl, rfl, by decide +kernel, rfl, by decide +kernel, by decide +kernel⟩
theorem w_show_work {f : Addr} {cdv : Value} {A : Around} {outer : List Env} {s : Shared} {H : Hp} {E : XK} (hr : Room 2 (A.deeper (envOfC "show_work" (defScope s_show_work) s.heap.objs.size f cdv))) :
    RSs (CC K) (cxOf (L2.CX P w) P w K mg base ["work", "words", "number", "hold"] "show_work" (defScope s_show_work) f cdv A outer s H E) (fun cls d _ H => E cls d H) false (defBody s_show_work) b_show_work := by
  have h := Kx.of (P := P) (w := w) (C := CC K) (mg := mg) (base := base) (N := ["work", "words", "number", "hold"]) (outer := outer) (E := E) (H := H) sc_show_work.nd hr
  exact (rss_cons (k_setOw h.toKb.nd (rf_lst (ra_cons (re_fld rfl (a_name T) (re_var 0)) ra_nil))) (rss_cons (rs_for h.hp h.toKb.calm (ri_iter (RE.of (rf_lst (ra_cons (re_fld rfl (a_gap T) (re_var 0)) (ra_cons (re_fld rfl (a_length T) (re_var 0)) (ra_cons (re_fld rfl (a_due T) (re_var 0)) (ra_cons (re_fld rfl (a_late T) (re_var 0)) ra_nil))))))) (k_gname h.toKb.nd) (rss_one (rs_expr (k_append (re_var 1) (ra_cons (k_str (f_str T) (ra_cons (re_var 2) ra_nil)) ra_nil))))) (rss_one (rs_ret (k_join h.toKb re_str (ra_cons (re_add (re_var 1) (RE.of (rf_lc (own := [("hold", 3)]) h.toKb.calm h.toKb.nd (ri_iter (k_ownR0 (pl := _) h.toKb (dm_Work_Work_held T) (by decide) (re_var 0) rfl)) (show BlkOk ["work", "words", "number", "hold"] (defScope s_show_work) _ [("hold", 3)] from ⟨rfl, by decide +kernel, by decide +kernel, by decide +kernel, by decide +kernel⟩) (fun _ _ _ _ _ => (k_gname (Kb.blk h.toKb).nd)) (by decide) (fun _ _ _ _ _ => rts_nil) (fun _ _ _ _ _ => (k_call0 (Kb.blk h.toKb) (d_show_hold T) (by decide) (ra_cons (re_var 3) ra_nil) (arity_cons arity_nil) rfl))))) ra_nil))))))
theorem d_show_work : DefOk P w mg base (CC K) 3 1 "show_work" m_show_work [] := by
  obtain ⟨fd, F⟩ := T.c.d.def_ 20 (d := D_show_work) rfl
  have b := F.bindsN (ps := ["work"]) fun _ _ _ _ _ _ us hl => match us, hl with | [_], _ => rfl
  exact ⟨⟨_, f_show_work T, F.kp, fd, _, [], [], fn_okF (C := CC K) F sc_show_work (fun cdv A outer s H E hr => w_show_work T hr), b, .nil, rfl⟩⟩
/-! ### read_work -/
omit T in
theorem sc_read_work : FnScope ["text", "words", "holds", "gap", "length", "due", "late", "word"] ["text"] (defScope s_read_work) := ⟨rfl, rfl, rfl, by decide +kernel, rfl, by decide +kernel, by decide +kernel⟩
theorem w_read_work {f : Addr} {cdv : Value} {A : Around} {outer : List Env} {s : Shared} {H : Hp} {E : XK} (hr : Room 6 (A.deeper (envOfC "read_work" (defScope s_read_work) s.heap.objs.size f cdv))) :
    RSs (CC K) (cxOf (L2.CX P w) P w K mg base ["text", "words", "holds", "gap", "length", "due", "late", "word"] "read_work" (defScope s_read_work) f cdv A outer s H E) (fun cls d _ H => E cls d H) false (defBody s_read_work) b_read_work := by
  have h := Kx.of (P := P) (w := w) (C := CC K) (mg := mg) (base := base) (N := ["text", "words", "holds", "gap", "length", "due", "late", "word"]) (outer := outer) (E := E) (H := H) sc_read_work.nd hr
  exact (rss_cons (k_set h.toKb.nd (k_call0 h.toKb (d_words_of T) (by decide) (ra_cons (re_var 0) ra_nil) (arity_cons arity_nil) rfl)) (rss_cons (rs_if (k_tcmp x_lt (k_len h.toKb (f_len T) (ra_cons (re_var 1) ra_nil)) re_int) (rss_one (rs_raise h.toKb.calm h.toKb.tk (e_NoText T) rfl (f_NoText T))) rss_nil) (rss_cons (rs_asg (RE.of (rf_lcX h.st h.fr h.toKb.tk (own := [("word", 7)]) (fun _ _ _ _ _ z => z) h.toKb.calm h.toKb.nd (ri_iter (RE.of (rf_sl rfl (re_var 1) (ro_some re_int) (ro_some re_int)))) (show BlkOk ["text", "words", "holds", "gap", "length", "due", "late", "word"] (defScope s_read_work) _ [("word", 7)] from ⟨rfl, by decide +kernel, by decide +kernel, by decide +kernel, by decide +kernel⟩) (fun _ _ _ _ _ => (k_gname (Kb.blkX h.toKb).nd)) (by decide) (fun _ _ _ _ _ => rts_nil) (fun _ _ _ _ _ => (k_call0 (Kb.blkX h.toKb) (d_number_in T) (by decide) (ra_cons (re_var 7) ra_nil) (arity_cons arity_nil) rfl)))) (rg_lst h.toKb.calm (rgs_cons (k_gname h.toKb.nd) (rgs_cons (k_gname h.toKb.nd) (rgs_cons (k_gname h.toKb.nd) (rgs_cons (k_gname h.toKb.nd) rgs_nil)))))) (rss_cons (rs_setLcX h.st h.fr h.toKb.tk (by rfl) (by rfl) (own := [("word", 7)]) (fun _ _ _ _ _ z => z) h.toKb.calm h.toKb.nd (ri_iter (RE.of (rf_sl rfl (re_var 1) (ro_some re_int) ro_none))) (show BlkOk ["text", "words", "holds", "gap", "length", "due", "late", "word"] (defScope s_read_work) _ [("word", 7)] from ⟨rfl, by decide +kernel, by decide +kernel, by decide +kernel, by decide +kernel⟩) (fun _ _ _ _ _ => (k_gname (Kb.blkX h.toKb).nd)) (by decide) (fun _ _ _ _ _ => rts_nil) (fun _ _ _ _ _ => (k_call0 (Kb.blkX h.toKb) (d_read_hold T) (by decide) (ra_cons (re_var 7) ra_nil) (arity_cons arity_nil) rfl)) (hsw := sw_true rfl (by rfl) (by rfl) (by rfl))) (rss_one (rs_ret (k_make0 h.toKb (d_Work_new T) (by decide) (ra_cons (k_ix (Kb.s h.toKb) (re_var 1) re_int) (ra_cons (re_var 3) (ra_cons (re_var 4) (ra_cons (re_var 5) (ra_cons (re_var 6) (ra_cons (re_var 2) ra_nil)))))) (arity_cons (arity_cons (arity_cons (arity_cons (arity_cons (arity_cons arity_nil)))))) rfl)))))))
theorem d_read_work : DefOk P w mg base (CC K) 7 1 "read_work" m_read_work [] := by
  obtain ⟨fd, F⟩ := T.c.d.def_ 21 (d := D_read_work) rfl
  have b := F.bindsN (ps := ["text"]) fun _ _ _ _ _ _ us hl => match us, hl with | [_], _ => rfl
  exact ⟨⟨_, f_read_work T, F.kp, fd, _, [], [], fn_okF (C := CC K) F sc_read_work (fun cdv A outer s H E hr => w_read_work T hr), b, .nil, rfl⟩⟩
/-! ### works_of -/
omit T in
theorem sc_works_of : FnScope ["duty", "at"] ["duty"] (defScope s_works_of) := ⟨rfl, rfl, rfl, by decide +kernel, rfl, by decide +kernel, by decide +kernel⟩
theorem w_works_of {f : Addr} {cdv : Value} {A : Around} {outer : List Env} {s : Shared} {H : Hp} {E : XK} (hr : Room 2 (A.deeper (envOfC "works_of" (defScope s_works_of) s.heap.objs.size f cdv))) :
    RSs (CC K) (cxOf (L2.CX P w) P w K mg base ["duty", "at"] "works_of" (defScope s_works_of) f cdv A outer s H E) (fun cls d _ H => E cls d H) false (defBody s_works_of) b_works_of := by
  have h := Kx.of (P := P) (w := w) (C := CC K) (mg := mg) (base := base) (N := ["duty", "at"]) (outer := outer) (E := E) (H := H) sc_works_of.nd hr
  exact (rss_one (rs_ret (RE.of (rf_lc (own := [("at", 1)]) h.toKb.calm h.toKb.nd (ri_range1 rfl (f_range T) (ra_cons (k_ownR0 (pl := _) h.toKb (dm_Duty_Duty_size T) (by decide) (re_var 0) rfl) ra_nil)) (show BlkOk ["duty", "at"] (defScope s_works_of) _ [("at", 1)] from ⟨rfl, by decide +kernel, by decide +kernel, by decide +kernel, by decide +kernel⟩) (fun _ _ _ _ _ => (k_gname (Kb.blk h.toKb).nd)) (by decide) (fun _ _ _ _ _ => rts_nil) (fun _ _ _ _ _ => (k_ownR (pl := _) (Kb.blk h.toKb) (dm_Duty_Duty_work T) (by decide) (re_var 0) (ra_cons (re_var 1) ra_nil) (arity_cons arity_nil) rfl))))))
theorem d_works_of : DefOk P w mg base (CC K) 3 1 "works_of" m_works_of [] := by
  obtain ⟨fd, F⟩ := T.c.d.def_ 22 (d := D_works_of) rfl
  have b := F.bindsN (ps := ["duty"]) fun _ _ _ _ _ _ us hl => match us, hl with | [_], _ => rfl
  exact ⟨⟨_, f_works_of T, F.kp, fd, _, [], [], fn_okF (C := CC K) F sc_works_of (fun cdv A outer s H E hr => w_works_of T hr), b, .nil, rfl⟩⟩
/-! ### with_work -/
omit T in
theorem sc_with_work : FnScope ["duty", "text"] ["duty", "text"] (defScope s_with_work) := ⟨rfl, rfl, rfl, by decide +kernel, rfl, by decide +kernel, by decide +kernel⟩
theorem w_with_work {f : Addr} {cdv : Value} {A : Around} {outer : List Env} {s : Shared} {H : Hp} {E : XK} (hr : Room 9 (A.deeper (envOfC "with_work" (defScope s_with_work) s.heap.objs.size f cdv))) :
    RSs (CC K) (cxOf (L2.CX P w) P w K mg base ["duty", "text"] "with_work" (defScope s_with_work) f cdv A outer s H E) (fun cls d _ H => E cls d H) false (defBody s_with_work) b_with_work := by
  have h := Kx.of (P := P) (w := w) (C := CC K) (mg := mg) (base := base) (N := ["duty", "text"]) (outer := outer) (E := E) (H := H) sc_with_work.nd hr
  exact (rss_one (rs_ret (k_make0 h.toKb (d_Duty_new T) (by decide) (ra_cons (re_add (k_call0 h.toKb (d_works_of T) (by decide) (ra_cons (re_var 0) ra_nil) (arity_cons arity_nil) rfl) (RE.of (rf_lst (ra_cons (k_call0 h.toKb (d_read_work T) (by decide) (ra_cons (re_var 1) ra_nil) (arity_cons arity_nil) rfl) ra_nil)))) ra_nil) (arity_cons arity_nil) rfl)))
theorem d_with_work : DefOk P w mg base (CC K) 10 2 "with_work" m_with_work [] := by
  obtain ⟨fd, F⟩ := T.c.d.def_ 23 (d := D_with_work) rfl
  have b := F.bindsN (ps := ["duty", "text"]) fun _ _ _ _ _ _ us hl => match us, hl with | [_, _], _ => rfl
  exact ⟨⟨_, f_with_work T, F.kp, fd, _, [], [], fn_okF (C := CC K) F sc_with_work (fun cdv A outer s H E hr => w_with_work T hr), b, .nil, rfl⟩⟩
/-! ### said -/
omit T in
theorem sc_said : FnScope ["duty", "word", "blank", "rest", "work", "at"] ["duty", "word", "blank", "rest"] (defScope s_said) := ⟨rfl, rfl, rfl, by decide +kernel, rfl, by decide +kernel, by decide +kernel⟩
theorem w_said {f : Addr} {cdv : Value} {A : Around} {outer : List Env} {s : Shared} {H : Hp} {E : XK} (hr : Room 3 (A.deeper (envOfC "said" (defScope s_said) s.heap.objs.size f cdv))) :
    RSs (CC K) (cxOf (L2.CX P w) P w K mg base ["duty", "word", "blank", "rest", "work", "at"] "said" (defScope s_said) f cdv A outer s H E) (fun cls d _ H => E cls d H) false (defBody s_said) b_said := by
  have h := Kx.of (P := P) (w := w) (C := CC K) (mg := mg) (base := base) (N := ["duty", "word", "blank", "rest", "work", "at"]) (outer := outer) (E := E) (H := H) sc_said.nd hr
  exact (rss_cons (rs_if (k_tcmp (x_eq (Kb.s h.toKb)) (re_var 2) re_str) (rss_cons (rs_if (k_tcmp (x_eq (Kb.s h.toKb)) (re_var 1) re_str) (rss_one (rs_ret (k_join h.toKb re_str (ra_cons (RE.of (rf_lc (own := [("work", 4)]) h.toKb.calm h.toKb.nd (ri_iter (k_call0 h.toKb (d_works_of T) (by decide) (ra_cons (re_var 0) ra_nil) (arity_cons arity_nil) rfl)) (show BlkOk ["duty", "word", "blank", "rest", "work", "at"] (defScope s_said) _ [("work", 4)] from ⟨rfl, by decide +kernel, by decide +kernel, by decide +kernel, by decide +kernel⟩) (fun _ _ _ _ _ => (k_gname (Kb.blk h.toKb).nd)) (by decide) (fun _ _ _ _ _ => rts_nil) (fun _ _ _ _ _ => (k_call0 (Kb.blk h.toKb) (d_show_work T) (by decide) (ra_cons (re_var 4) ra_nil) (arity_cons arity_nil) rfl)))) ra_nil)))) rss_nil) (rss_cons (rs_if (k_tcmp (x_eq (Kb.s h.toKb)) (re_var 1) re_str) (rss_one rs_no) rss_nil) (rss_one (rs_raise h.toKb.calm h.toKb.tk (e_NoRow T) rfl (f_NoRow T))))) rss_nil) (rss_cons (rs_if (RT.of (rw_or (k_tcmp (x_eq (Kb.s h.toKb)) (re_var 1) re_str) (rw_or1 (k_tcmp (x_eq (Kb.s h.toKb)) (re_var 1) re_str)))) (rss_one rs_no) rss_nil) (rss_cons (rs_if (k_tcmp (x_eq (Kb.s h.toKb)) (re_var 1) re_str) (rss_one rs_no) rss_nil) (rss_cons (rs_if (k_tcmp (x_in (Kb.s h.toKb)) re_str (re_var 3)) (rss_one (rs_raise h.toKb.calm h.toKb.tk (e_NoRow T) rfl (f_NoRow T))) rss_nil) (rss_one rs_no)))))
theorem d_said : DefOk P w mg base (CC K) 4 4 "said" m_said [] := by
  obtain ⟨fd, F⟩ := T.c.d.def_ 24 (d := D_said) rfl
  have b := F.bindsN (ps := ["duty", "word", "blank", "rest"]) fun _ _ _ _ _ _ us hl => match us, hl with | [_, _, _, _], _ => rfl
  exact ⟨⟨_, f_said T, F.kp, fd, _, [], [], fn_okF (C := CC K) F sc_said (fun cdv A outer s H E hr => w_said T hr), b, .nil, rfl⟩⟩
/-! ### Desk.__init__ -/
omit T in
theorem sc_Desk_new : FnScope ["self"] ["self"] (defScope s_Desk_new) := ⟨rfl, rfl, rfl, by decide +kernel, rfl, by decide +kernel, by decide +kernel⟩
theorem w_Desk_new {f : Addr} {cdv : Value} {A : Around} {outer : List Env} {s : Shared} {H : Hp} {E : XK} (hr : Room 9 (A.deeper (envOfC "Desk.__init__" (defScope s_Desk_new) s.heap.objs.size f cdv))) :
    RSs (CC K) (cxOf (L2.CX P w) P w K mg base ["self"] "Desk.__init__" (defScope s_Desk_new) f cdv A outer s H E) (fun cls d _ H => E cls d H) false (defBody s_Desk_new) b_Desk_new := by
  have h := Kx.of (P := P) (w := w) (C := CC K) (mg := mg) (base := base) (N := ["self"]) (outer := outer) (E := E) (H := H) sc_Desk_new.nd hr
  exact (rss_one (rs_putF rfl (a_duty T) (re_var 0) (k_make0 h.toKb (d_Duty_new T) (by decide) (ra_cons (RE.of (rf_lst ra_nil)) ra_nil) (arity_cons arity_nil) rfl)))
theorem d_Desk_new : MakeOk P w mg base (CC K) 10 1 8 "Desk" m_Desk_new [] := by
  obtain ⟨fd, F⟩ := T.c.d.def_ 25 (d := D_Desk_new) rfl
  have b := F.bindsN (ps := ["self"]) fun _ _ _ _ _ _ us hl => match us, hl with | [_], _ => rfl
  exact ⟨f_Desk T, _, fd, _, [], [], mk_Desk T, fn_okF (C := CC K) F sc_Desk_new (fun cdv A outer s H E hr => w_Desk_new T hr), b, .nil, rfl⟩
/-! ### Desk.say -/
omit T in
theorem sc_Desk_say : FnScope ["self", "line", "word", "blank", "rest", "names"] ["self", "line"] (defScope s_Desk_say) := ⟨rfl, rfl, rfl, by decide +kernel, rfl, by decide +kernel, by decide +kernel⟩
theorem w_Desk_say {f : Addr} {cdv : Value} {A : Around} {outer : List Env} {s : Shared} {H : Hp} {E : XK} (hr : Room 10 (A.deeper (envOfC "Desk.say" (defScope s_Desk_say) s.heap.objs.size f cdv))) :
    RSs (CC K) (cxOf (L2.CX P w) P w K mg base ["self", "line", "word", "blank", "rest", "names"] "Desk.say" (defScope s_Desk_say) f cdv A outer s H E) (fun cls d _ H => E cls d H) false (defBody s_Desk_say) b_Desk_say := by
  have h := Kx.of (P := P) (w := w) (C := CC K) (mg := mg) (base := base) (N := ["self", "line", "word", "blank", "rest", "names"]) (outer := outer) (E := E) (H := H) sc_Desk_say.nd hr
  exact (rss_cons (rs_if (rt_not (rt_val (k_isi h.toKb (f_isinstance T) (f_str T) (re_var 1)))) (rss_one (rs_raise h.toKb.calm h.toKb.tk (e_NoRow T) rfl (f_NoRow T))) rss_nil) (rss_cons (rs_asg (k_part (re_var 1) (ra_cons re_str ra_nil)) (rg_tup rfl h.toKb.calm (rgs_cons (k_gname h.toKb.nd) (rgs_cons (k_gname h.toKb.nd) (rgs_cons (k_gname h.toKb.nd) rgs_nil))))) (rss_cons (rs_if (RT.of (rw_and (k_tcmp (x_eq (Kb.s h.toKb)) (re_var 2) re_str) (rw_and1 (k_tcmp (x_eq (Kb.s h.toKb)) (re_var 3) re_str)))) (rss_cons (rs_putF rfl (a_duty T) (re_var 0) (k_call0 h.toKb (d_with_work T) (by decide) (ra_cons (re_fld rfl (a_duty T) (re_var 0)) (ra_cons (re_var 4) ra_nil)) (arity_cons (arity_cons arity_nil)) rfl)) (rss_one (rs_ret re_str))) rss_nil) (rss_cons (rs_if (RT.of (rw_and (k_tcmp (x_eq (Kb.s h.toKb)) (re_var 2) re_str) (rw_and (k_tcmp (x_eq (Kb.s h.toKb)) (re_var 3) re_str) (rw_and1 (k_tcmp (x_nin (Kb.s h.toKb)) re_str (re_var 4)))))) (rss_cons rs_no (rss_one (rs_ret re_str))) rss_nil) (rss_cons (rs_if (k_tcmp (x_eq (Kb.s h.toKb)) (re_var 2) re_str) (rss_cons rs_no (rss_cons rs_no (rss_cons rs_no (rss_one (rs_ret re_str))))) rss_nil) (rss_one (rs_ret (k_call0 h.toKb (d_said T) (by decide) (ra_cons (re_fld rfl (a_duty T) (re_var 0)) (ra_cons (re_var 2) (ra_cons (re_var 3) (ra_cons (re_var 4) ra_nil)))) (arity_cons (arity_cons (arity_cons (arity_cons arity_nil)))) rfl))))))))
theorem dm_Desk_Desk_say : MethOk P w mg base (CC K) 11 2 8 "say" m_Desk_say [] := by
  obtain ⟨fd, F⟩ := T.c.d.def_ 26 (d := D_Desk_say) rfl
  have b := F.bindsN (ps := ["self", "line"]) fun _ _ _ _ _ _ us hl => match us, hl with | [_, _], _ => rfl
  exact ⟨_, fd, _, [], [], c_Desk T, mt_Desk_say T, fn_okF (C := CC K) F sc_Desk_say (fun cdv A outer s H E hr => w_Desk_say T hr), b, .nil, rfl⟩
/-! ### _law_cell_at -/
omit T in
theorem sc_l_law_cell_at : FnScope ["script", "k"] ["script", "k"] (defScope s_l_law_cell_at) := ⟨rfl, rfl, rfl, by decide +kernel, rfl, by decide +kernel, by decide +kernel⟩
theorem w_l_law_cell_at {f : Addr} {cdv : Value} {A : Around} {outer : List Env} {s : Shared} {H : Hp} {E : XK} (hr : Room 1 (A.deeper (envOfC "_law_cell_at" (defScope s_l_law_cell_at) s.heap.objs.size f cdv))) :
    RSs (CC K) (cxOf (L2.CX P w) P w K mg base ["script", "k"] "_law_cell_at" (defScope s_l_law_cell_at) f cdv A outer s H E) (fun cls d _ H => E cls d H) false (defBody s_l_law_cell_at) b_l_law_cell_at := by
  have h := Kx.of (P := P) (w := w) (C := CC K) (mg := mg) (base := base) (N := ["script", "k"]) (outer := outer) (E := E) (H := H) sc_l_law_cell_at.nd hr
  exact (rss_cons (rs_if (k_tcmp x_lt (re_var 1) (k_len h.toKb (f_len T) (ra_cons (re_var 0) ra_nil))) (rss_one (rs_ret (k_ix (Kb.s h.toKb) (re_var 0) (re_var 1)))) rss_nil) (rss_one (rs_ret re_int)))
theorem d_l_law_cell_at : DefOk P w mg base (CC K) 2 2 "_law_cell_at" m_l_law_cell_at [] := by
  obtain ⟨fd, F⟩ := T.c.d.def_ 27 (d := D_l_law_cell_at) rfl
  have b := F.bindsN (ps := ["script", "k"]) fun _ _ _ _ _ _ us hl => match us, hl with | [_, _], _ => rfl
  exact ⟨⟨_, f__law_cell_at T, F.kp, fd, _, [], [], fn_okF (C := CC K) F sc_l_law_cell_at (fun cdv A outer s H E hr => w_l_law_cell_at T hr), b, .nil, rfl⟩⟩
/-! ### _law_well -/
omit T in
theorem sc_l_law_well : FnScope ["cell"] ["cell"] (defScope s_l_law_well) := ⟨rfl, rfl, rfl, by decide +kernel, rfl, by decide +kernel, by decide +kernel⟩
theorem w_l_law_well {f : Addr} {cdv : Value} {A : Around} {outer : List Env} {s : Shared} {H : Hp} {E : XK} (hr : Room 1 (A.deeper (envOfC "_law_well" (defScope s_l_law_well) s.heap.objs.size f cdv))) :
    RSs (CC K) (cxOf (L2.CX P w) P w K mg base ["cell"] "_law_well" (defScope s_l_law_well) f cdv A outer s H E) (fun cls d _ H => E cls d H) false (defBody s_l_law_well) b_l_law_well := by
  have h := Kx.of (P := P) (w := w) (C := CC K) (mg := mg) (base := base) (N := ["cell"]) (outer := outer) (E := E) (H := H) sc_l_law_well.nd hr
  exact (rss_one (rs_ret (re_cell (rf_lst (ra_cons (re_mul (re_var 0) (k_int (f_int T) (ra_cons (k_cmp x_ge (re_var 0) (re_pow re_int re_int)) ra_nil))) (ra_cons (re_mod (re_var 0) re_int) (ra_cons re_int ra_nil)))))))
theorem d_l_law_well : DefOk P w mg base (CC K) 2 1 "_law_well" m_l_law_well [] := by
  obtain ⟨fd, F⟩ := T.c.d.def_ 28 (d := D_l_law_well) rfl
  have b := F.bindsN (ps := ["cell"]) fun _ _ _ _ _ _ us hl => match us, hl with | [_], _ => rfl
  exact ⟨⟨_, f__law_well T, F.kp, fd, _, [], [], fn_okF (C := CC K) F sc_l_law_well (fun cdv A outer s H E hr => w_l_law_well T hr), b, .nil, rfl⟩⟩
/-! ### _law_draw -/
omit T in
theorem sc_l_law_draw : FnScope ["well", "many", "number", "found"] ["well", "many"] (defScope s_l_law_draw) := ⟨rfl, rfl, rfl, by decide +kernel, rfl, by decide +kernel, by decide +kernel⟩
theorem w_l_law_draw {f : Addr} {cdv : Value} {A : Around} {outer : List Env} {s : Shared} {H : Hp} {E : XK} (hr : Room 1 (A.deeper (envOfC "_law_draw" (defScope s_l_law_draw) s.heap.objs.size f cdv))) :
    RSs (CC K) (cxOf (L2.CX P w) P w K mg base ["well", "many", "number", "found"] "_law_draw" (defScope s_l_law_draw) f cdv A outer s H E) (fun cls d _ H => E cls d H) false (defBody s_l_law_draw) b_l_law_draw := by
  have h := Kx.of (P := P) (w := w) (C := CC K) (mg := mg) (base := base) (N := ["well", "many", "number", "found"]) (outer := outer) (E := E) (H := H) sc_l_law_draw.nd hr
  exact (rss_cons (rs_if (k_tcmp x_gt (k_ix (Kb.s h.toKb) (re_var 0) re_int) re_int) (rss_cons (k_set h.toKb.nd (re_mod (k_ix (Kb.s h.toKb) (re_var 0) re_int) (re_var 1))) (rss_cons (rs_setIx (re_var 0) re_int (re_fdiv (k_ix (Kb.s h.toKb) (re_var 0) re_int) (re_var 1))) (rss_one (rs_ret (re_var 3))))) rss_nil) (rss_cons (rs_setIx (re_var 0) re_int (re_add (k_ix (Kb.s h.toKb) (re_var 0) re_int) re_int)) (rss_cons (k_set h.toKb.nd (re_mod (re_pow (re_add (re_add (k_ix (Kb.s h.toKb) (re_var 0) re_int) (re_mul re_int (k_ix (Kb.s h.toKb) (re_var 0) re_int))) re_int) re_int) re_int)) (rss_cons (k_set h.toKb.nd (re_mod (re_mul (re_var 2) (re_add (re_fdiv (re_var 2) re_int) re_int)) re_int)) (rss_one (rs_ret (re_mod (re_mod (re_mul (re_var 2) (re_add (re_fdiv (re_var 2) re_int) re_int)) re_int) (re_var 1))))))))
theorem d_l_law_draw : DefOk P w mg base (CC K) 2 2 "_law_draw" m_l_law_draw [] := by
  obtain ⟨fd, F⟩ := T.c.d.def_ 29 (d := D_l_law_draw) rfl
  have b := F.bindsN (ps := ["well", "many"]) fun _ _ _ _ _ _ us hl => match us, hl with | [_, _], _ => rfl
  exact ⟨⟨_, f__law_draw T, F.kp, fd, _, [], [], fn_okF (C := CC K) F sc_l_law_draw (fun cdv A outer s H E hr => w_l_law_draw T hr), b, .nil, rfl⟩⟩
/-! ### _law_sign -/
omit T in
theorem sc_l_law_sign : FnScope ["number", "signs"] ["number"] (defScope s_l_law_sign) := ⟨rfl, rfl, rfl, by decide +kernel, rfl, by decide +kernel, by decide +kernel⟩
theorem w_l_law_sign {f : Addr} {cdv : Value} {A : Around} {outer : List Env} {s : Shared} {H : Hp} {E : XK} (hr : Room 1 (A.deeper (envOfC "_law_sign" (defScope s_l_law_sign) s.heap.objs.size f cdv))) :
    RSs (CC K) (cxOf (L2.CX P w) P w K mg base ["number", "signs"] "_law_sign" (defScope s_l_law_sign) f cdv A outer s H E) (fun cls d _ H => E cls d H) false (defBody s_l_law_sign) b_l_law_sign := by
  have h := Kx.of (P := P) (w := w) (C := CC K) (mg := mg) (base := base) (N := ["number", "signs"]) (outer := outer) (E := E) (H := H) sc_l_law_sign.nd hr
  exact (rss_cons (k_set h.toKb.nd re_str) (rss_one (rs_ret (k_ix (Kb.s h.toKb) (re_add (re_var 1) re_str) (re_mod (re_var 0) re_int)))))
theorem d_l_law_sign : DefOk P w mg base (CC K) 2 1 "_law_sign" m_l_law_sign [] := by
  obtain ⟨fd, F⟩ := T.c.d.def_ 30 (d := D_l_law_sign) rfl
  have b := F.bindsN (ps := ["number"]) fun _ _ _ _ _ _ us hl => match us, hl with | [_], _ => rfl
  exact ⟨⟨_, f__law_sign T, F.kp, fd, _, [], [], fn_okF (C := CC K) F sc_l_law_sign (fun cdv A outer s H E hr => w_l_law_sign T hr), b, .nil, rfl⟩⟩
/-! ### _law_text -/
omit T in
theorem sc_l_law_text : FnScope ["well", "words", "k", "thing"] ["well"] (defScope s_l_law_text) := ⟨rfl, rfl, rfl, by decide +kernel, rfl, by decide +kernel, by decide +kernel⟩
theorem w_l_law_text {f : Addr} {cdv : Value} {A : Around} {outer : List Env} {s : Shared} {H : Hp} {E : XK} (hr : Room 2 (A.deeper (envOfC "_law_text" (defScope s_l_law_text) s.heap.objs.size f cdv))) :
    RSs (CC K) (cxOf (L2.CX P w) P w K mg base ["well", "words", "k", "thing"] "_law_text" (defScope s_l_law_text) f cdv A outer s H E) (fun cls d _ H => E cls d H) false (defBody s_l_law_text) b_l_law_text := by
  have h := Kx.of (P := P) (w := w) (C := CC K) (mg := mg) (base := base) (N := ["well", "words", "k", "thing"]) (outer := outer) (E := E) (H := H) sc_l_law_text.nd hr
  exact (rss_cons (k_setOw h.toKb.nd (rf_lst (ra_cons (k_ix (Kb.s h.toKb) (RE.of (rf_lst (ra_cons re_str (ra_cons re_str (ra_cons re_str (ra_cons re_str ra_nil)))))) (k_call h.toKb (d_l_law_draw T) (by decide) (ra_cons (re_var 0) (ra_cons re_int ra_nil)) (arity_cons (arity_cons arity_nil)) rfl)) (ra_cons re_str (ra_cons re_str (ra_cons re_str (ra_cons (k_str (f_str T) (ra_cons (k_call h.toKb (d_l_law_draw T) (by decide) (ra_cons (re_var 0) (ra_cons re_int ra_nil)) (arity_cons (arity_cons arity_nil)) rfl) ra_nil)) ra_nil))))))) (rss_cons (rs_for h.hp h.toKb.calm (ri_range1 rfl (f_range T) (ra_cons (k_call h.toKb (d_l_law_draw T) (by decide) (ra_cons (re_var 0) (ra_cons re_int ra_nil)) (arity_cons (arity_cons arity_nil)) rfl) ra_nil)) (k_gname h.toKb.nd) (rss_cons (k_set h.toKb.nd (k_ix (Kb.s h.toKb) (RE.of (rf_lst (ra_cons re_str (ra_cons re_str (ra_cons re_str (ra_cons re_str ra_nil)))))) (k_call h.toKb (d_l_law_draw T) (by decide) (ra_cons (re_var 0) (ra_cons re_int ra_nil)) (arity_cons (arity_cons arity_nil)) rfl))) (rss_one (rs_expr (k_append (re_var 1) (ra_cons (re_add (re_add (re_add (re_add (re_var 3) re_str) (k_str (f_str T) (ra_cons (re_mul re_int (re_var 2)) ra_nil))) re_str) (k_str (f_str T) (ra_cons (re_add (re_add (re_mul re_int (re_var 2)) re_int) (k_call h.toKb (d_l_law_draw T) (by decide) (ra_cons (re_var 0) (ra_cons re_int ra_nil)) (arity_cons (arity_cons arity_nil)) rfl)) ra_nil))) ra_nil)))))) (rss_one (rs_ret (k_join h.toKb re_str (ra_cons (re_var 1) ra_nil))))))
theorem d_l_law_text : DefOk P w mg base (CC K) 3 1 "_law_text" m_l_law_text [] := by
  obtain ⟨fd, F⟩ := T.c.d.def_ 31 (d := D_l_law_text) rfl
  have b := F.bindsN (ps := ["well"]) fun _ _ _ _ _ _ us hl => match us, hl with | [_], _ => rfl
  exact ⟨⟨_, f__law_text T, F.kp, fd, _, [], [], fn_okF (C := CC K) F sc_l_law_text (fun cdv A outer s H E hr => w_l_law_text T hr), b, .nil, rfl⟩⟩
/-! ### _law_spoilt -/
omit T in
theorem sc_l_law_spoilt : FnScope ["well", "text", "k", "blank", "colon", "at", "place", "sign", "way", "rest"] ["well", "text"] (defScope s_l_law_spoilt) := ⟨rfl, rfl, rfl, by decide +kernel, rfl, by decide +kernel, by decide +kernel⟩
theorem w_l_law_spoilt {f : Addr} {cdv : Value} {A : Around} {outer : List Env} {s : Shared} {H : Hp} {E : XK} (hr : Room 2 (A.deeper (envOfC "_law_spoilt" (defScope s_l_law_spoilt) s.heap.objs.size f cdv))) :
    RSs (CC K) (cxOf (L2.CX P w) P w K mg base ["well", "text", "k", "blank", "colon", "at", "place", "sign", "way", "rest"] "_law_spoilt" (defScope s_l_law_spoilt) f cdv A outer s H E) (fun cls d _ H => E cls d H) false (defBody s_l_law_spoilt) b_l_law_spoilt := by
  have h := Kx.of (P := P) (w := w) (C := CC K) (mg := mg) (base := base) (N := ["well", "text", "k", "blank", "colon", "at", "place", "sign", "way", "rest"]) (outer := outer) (E := E) (H := H) sc_l_law_spoilt.nd hr
  exact (rss_cons (rs_for h.hp h.toKb.calm (ri_range1 rfl (f_range T) (ra_cons (re_add re_int (k_call h.toKb (d_l_law_draw T) (by decide) (ra_cons (re_var 0) (ra_cons re_int ra_nil)) (arity_cons (arity_cons arity_nil)) rfl)) ra_nil)) (k_gname h.toKb.nd) (rss_cons (k_set h.toKb.nd (k_index (re_add (re_var 1) re_str) (ra_cons re_str ra_nil))) (rss_cons (k_set h.toKb.nd (k_index (re_add (re_var 1) re_str) (ra_cons re_str ra_nil))) (rss_cons (k_setOw h.toKb.nd (rf_lst (ra_cons re_int (ra_cons (re_var 3) (ra_cons (k_call h.toKb (d_l_law_draw T) (by decide) (ra_cons (re_var 0) (ra_cons (re_add (re_var 3) re_int) ra_nil)) (arity_cons (arity_cons arity_nil)) rfl) (ra_cons (re_var 4) (ra_cons (k_max2 h.toKb (f_max T) (ra_cons re_int (ra_cons (re_sub (re_var 4) re_int) ra_nil))) (ra_cons (k_len h.toKb (f_len T) (ra_cons (re_var 1) ra_nil)) ra_nil)))))))) (rss_cons (rs_expr (k_append (re_var 5) (ra_cons (k_call h.toKb (d_l_law_draw T) (by decide) (ra_cons (re_var 0) (ra_cons (re_add (k_len h.toKb (f_len T) (ra_cons (re_var 1) ra_nil)) re_int) ra_nil)) (arity_cons (arity_cons arity_nil)) rfl) ra_nil))) (rss_cons (k_set h.toKb.nd (k_min2 h.toKb (f_min T) (ra_cons (k_len h.toKb (f_len T) (ra_cons (re_var 1) ra_nil)) (ra_cons (k_ix (Kb.s h.toKb) (re_var 5) (k_call h.toKb (d_l_law_draw T) (by decide) (ra_cons (re_var 0) (ra_cons re_int ra_nil)) (arity_cons (arity_cons arity_nil)) rfl)) ra_nil)))) (rss_cons (k_set h.toKb.nd (k_call0 h.toKb (d_l_law_sign T) (by decide) (ra_cons (k_call h.toKb (d_l_law_draw T) (by decide) (ra_cons (re_var 0) (ra_cons re_int ra_nil)) (arity_cons (arity_cons arity_nil)) rfl) ra_nil) (arity_cons arity_nil) rfl)) (rss_cons (rs_if (k_tcmp (x_eq (Kb.s h.toKb)) (k_call h.toKb (d_l_law_draw T) (by decide) (ra_cons (re_var 0) (ra_cons re_int ra_nil)) (arity_cons (arity_cons arity_nil)) rfl) re_int) (rss_one (k_set h.toKb.nd (k_ix (Kb.s h.toKb) (RE.of (rf_lst (ra_cons re_str (ra_cons re_str (ra_cons re_str (ra_cons re_str (ra_cons re_str ra_nil))))))) (k_call h.toKb (d_l_law_draw T) (by decide) (ra_cons (re_var 0) (ra_cons re_int ra_nil)) (arity_cons (arity_cons arity_nil)) rfl)))) rss_nil) (rss_cons (k_set h.toKb.nd (k_call h.toKb (d_l_law_draw T) (by decide) (ra_cons (re_var 0) (ra_cons re_int ra_nil)) (arity_cons (arity_cons arity_nil)) rfl)) (rss_cons (k_set h.toKb.nd (re_slS (re_var 1) (ro_some (re_add (re_var 6) (k_int (f_int T) (ra_cons (k_cmp x_gt (re_var 8) re_int) ra_nil)))) ro_none)) (rss_one (k_set h.toKb.nd (re_add (re_add (re_slS (re_var 1) ro_none (ro_some (re_var 6))) (re_mulS (re_var 7) (k_int (f_int T) (ra_cons (k_cmp x_lt (re_var 8) re_int) ra_nil)))) (re_var 9)))))))))))))) (rss_one (rs_ret (re_var 1))))
theorem d_l_law_spoilt : DefOk P w mg base (CC K) 3 2 "_law_spoilt" m_l_law_spoilt [] := by
  obtain ⟨fd, F⟩ := T.c.d.def_ 32 (d := D_l_law_spoilt) rfl
  have b := F.bindsN (ps := ["well", "text"]) fun _ _ _ _ _ _ us hl => match us, hl with | [_, _], _ => rfl
  exact ⟨⟨_, f__law_spoilt T, F.kp, fd, _, [], [], fn_okF (C := CC K) F sc_l_law_spoilt (fun cdv A outer s H E hr => w_l_law_spoilt T hr), b, .nil, rfl⟩⟩
/-! ### _law_name -/
omit T in
theorem sc_l_law_name : FnScope ["word", "sign"] ["word"] (defScope s_l_law_name) := ⟨rfl, rfl, rfl, by decide +kernel, rfl, by decide +kernel, by decide +kernel⟩
theorem w_l_law_name {f : Addr} {cdv : Value} {A : Around} {outer : List Env} {s : Shared} {H : Hp} {E : XK} (hr : Room 1 (A.deeper (envOfC "_law_name" (defScope s_l_law_name) s.heap.objs.size f cdv))) :
    RSs (CC K) (cxOf (L2.CX P w) P w K mg base ["word", "sign"] "_law_name" (defScope s_l_law_name) f cdv A outer s H E) (fun cls d _ H => E cls d H) false (defBody s_l_law_name) b_l_law_name := by
  have h := Kx.of (P := P) (w := w) (C := CC K) (mg := mg) (base := base) (N := ["word", "sign"]) (outer := outer) (E := E) (H := H) sc_l_law_name.nd hr
  exact (rss_one (rs_ret (re_and (k_chain x_le x_le re_int (k_len h.toKb (f_len T) (ra_cons (re_var 0) ra_nil)) re_int) (re_one (k_cmp (x_nin (Kb.s h.toKb)) re_bl (RE.of (rf_lc (own := [("sign", 1)]) h.toKb.calm h.toKb.nd (ri_iter (re_var 0)) (show BlkOk ["word", "sign"] (defScope s_l_law_name) _ [("sign", 1)] from ⟨rfl, by decide +kernel, by decide +kernel, by decide +kernel, by decide +kernel⟩) (fun _ _ _ _ _ => (k_gname (Kb.blk h.toKb).nd)) (by decide) (fun _ _ _ _ _ => rts_nil) (fun _ _ _ _ _ => (k_chain x_le x_le re_str (re_var 1) re_str)))))))))
theorem d_l_law_name : DefOk P w mg base (CC K) 2 1 "_law_name" m_l_law_name [] := by
  obtain ⟨fd, F⟩ := T.c.d.def_ 33 (d := D_l_law_name) rfl
  have b := F.bindsN (ps := ["word"]) fun _ _ _ _ _ _ us hl => match us, hl with | [_], _ => rfl
  exact ⟨⟨_, f__law_name T, F.kp, fd, _, [], [], fn_okF (C := CC K) F sc_l_law_name (fun cdv A outer s H E hr => w_l_law_name T hr), b, .nil, rfl⟩⟩
/-! ### _law_number -/
omit T in
theorem sc_l_law_number : FnScope ["word", "sign"] ["word"] (defScope s_l_law_number) := ⟨rfl, rfl, rfl, by decide +kernel, rfl, by decide +kernel, by decide +kernel⟩
theorem w_l_law_number {f : Addr} {cdv : Value} {A : Around} {outer : List Env} {s : Shared} {H : Hp} {E : XK} (hr : Room 1 (A.deeper (envOfC "_law_number" (defScope s_l_law_number) s.heap.objs.size f cdv))) :
    RSs (CC K) (cxOf (L2.CX P w) P w K mg base ["word", "sign"] "_law_number" (defScope s_l_law_number) f cdv A outer s H E) (fun cls d _ H => E cls d H) false (defBody s_l_law_number) b_l_law_number := by
  have h := Kx.of (P := P) (w := w) (C := CC K) (mg := mg) (base := base) (N := ["word", "sign"]) (outer := outer) (E := E) (H := H) sc_l_law_number.nd hr
  exact (rss_cons (rs_if (RT.of (rw_or (rt_not (k_tchain x_le x_le re_int (k_len h.toKb (f_len T) (ra_cons (re_var 0) ra_nil)) re_int)) (rw_or1 (k_tcmp (x_ne (Kb.s h.toKb)) (RE.of (rf_lc (own := [("sign", 1)]) h.toKb.calm h.toKb.nd (ri_iter (re_var 0)) (show BlkOk ["word", "sign"] (defScope s_l_law_number) _ [("sign", 1)] from ⟨rfl, by decide +kernel, by decide +kernel, by decide +kernel, by decide +kernel⟩) (fun _ _ _ _ _ => (k_gname (Kb.blk h.toKb).nd)) (by decide) (fun _ _ _ _ _ => (rts_one (k_tcmp (x_nin (Kb.s (Kb.blk h.toKb))) (re_var 1) re_str))) (fun _ _ _ _ _ => (re_var 1)))) (RE.of (rf_lst ra_nil)))))) (rss_one (rs_ret re_non)) rss_nil) (rss_cons (rs_if (RT.of (rw_and (k_tcmp (x_eq (Kb.s h.toKb)) (k_ix (Kb.s h.toKb) (re_var 0) re_int) re_str) (rw_and1 (k_tcmp (x_ne (Kb.s h.toKb)) (re_var 0) re_str)))) (rss_one (rs_ret re_non)) rss_nil) (rss_one (rs_ret (k_int (f_int T) (ra_cons (re_var 0) ra_nil))))))
theorem d_l_law_number : DefOk P w mg base (CC K) 2 1 "_law_number" m_l_law_number [] := by
  obtain ⟨fd, F⟩ := T.c.d.def_ 34 (d := D_l_law_number) rfl
  have b := F.bindsN (ps := ["word"]) fun _ _ _ _ _ _ us hl => match us, hl with | [_], _ => rfl
  exact ⟨⟨_, f__law_number T, F.kp, fd, _, [], [], fn_okF (C := CC K) F sc_l_law_number (fun cdv A outer s H E hr => w_l_law_number T hr), b, .nil, rfl⟩⟩
/-! ### _law_fit -/
omit T in
theorem sc_l_law_fit : FnScope ["one", "other", "apart", "inside"] ["one", "other"] (defScope s_l_law_fit) := ⟨rfl, rfl, rfl, by decide +kernel, rfl, by decide +kernel, by decide +kernel⟩
theorem w_l_law_fit {f : Addr} {cdv : Value} {A : Around} {outer : List Env} {s : Shared} {H : Hp} {E : XK} (hr : Room 1 (A.deeper (envOfC "_law_fit" (defScope s_l_law_fit) s.heap.objs.size f cdv))) :
    RSs (CC K) (cxOf (L2.CX P w) P w K mg base ["one", "other", "apart", "inside"] "_law_fit" (defScope s_l_law_fit) f cdv A outer s H E) (fun cls d _ H => E cls d H) false (defBody s_l_law_fit) b_l_law_fit := by
  have h := Kx.of (P := P) (w := w) (C := CC K) (mg := mg) (base := base) (N := ["one", "other", "apart", "inside"]) (outer := outer) (E := E) (H := H) sc_l_law_fit.nd hr
  exact (rss_cons (k_set h.toKb.nd (re_or (k_cmp x_le (k_ix (Kb.s h.toKb) (re_var 0) re_int) (k_ix (Kb.s h.toKb) (re_var 1) re_int)) (re_one (k_cmp x_le (k_ix (Kb.s h.toKb) (re_var 1) re_int) (k_ix (Kb.s h.toKb) (re_var 0) re_int))))) (rss_cons (k_set h.toKb.nd (re_or (re_and (k_cmp x_ge (k_ix (Kb.s h.toKb) (re_var 0) re_int) (k_ix (Kb.s h.toKb) (re_var 1) re_int)) (re_one (k_cmp x_le (k_ix (Kb.s h.toKb) (re_var 0) re_int) (k_ix (Kb.s h.toKb) (re_var 1) re_int)))) (re_one (re_and (k_cmp x_ge (k_ix (Kb.s h.toKb) (re_var 1) re_int) (k_ix (Kb.s h.toKb) (re_var 0) re_int)) (re_one (k_cmp x_le (k_ix (Kb.s h.toKb) (re_var 1) re_int) (k_ix (Kb.s h.toKb) (re_var 0) re_int))))))) (rss_one (rs_ret (re_or (re_var 2) (re_one (re_and (re_var 3) (re_one (k_cmp (x_ne (Kb.s h.toKb)) (k_ix (Kb.s h.toKb) (re_var 0) re_int) (k_ix (Kb.s h.toKb) (re_var 1) re_int))))))))))
theorem d_l_law_fit : DefOk P w mg base (CC K) 2 2 "_law_fit" m_l_law_fit [] := by
  obtain ⟨fd, F⟩ := T.c.d.def_ 35 (d := D_l_law_fit) rfl
  have b := F.bindsN (ps := ["one", "other"]) fun _ _ _ _ _ _ us hl => match us, hl with | [_, _], _ => rfl
  exact ⟨⟨_, f__law_fit T, F.kp, fd, _, [], [], fn_okF (C := CC K) F sc_l_law_fit (fun cdv A outer s H E hr => w_l_law_fit T hr), b, .nil, rfl⟩⟩
/-! ### _law_read -/
omit T in
theorem sc_l_law_read : FnScope ["text", "words", "numbers", "holds", "word", "hold", "gap", "length", "due", "late", "k", "one", "thing", "colon", "rest", "start", "dash", "end", "other"] ["text"] (defScope s_l_law_read) := ⟨rfl, rfl, rfl, by decide +kernel, rfl, by decide +kernel, by decide +kernel⟩
theorem w_l_law_read {f : Addr} {cdv : Value} {A : Around} {outer : List Env} {s : Shared} {H : Hp} {E : XK} (hr : Room 2 (A.deeper (envOfC "_law_read" (defScope s_l_law_read) s.heap.objs.size f cdv))) :
    RSs (CC K) (cxOf (L2.CX P w) P w K mg base ["text", "words", "numbers", "holds", "word", "hold", "gap", "length", "due", "late", "k", "one", "thing", "colon", "rest", "start", "dash", "end", "other"] "_law_read" (defScope s_l_law_read) f cdv A outer s H E) (fun cls d _ H => E cls d H) false (defBody s_l_law_read) b_l_law_read := by
  have h := Kx.of (P := P) (w := w) (C := CC K) (mg := mg) (base := base) (N := ["text", "words", "numbers", "holds", "word", "hold", "gap", "length", "due", "late", "k", "one", "thing", "colon", "rest", "start", "dash", "end", "other"]) (outer := outer) (E := E) (H := H) sc_l_law_read.nd hr
  exact (rss_cons (k_set h.toKb.nd (RE.of (kf_split (re_var 0) (ra_cons re_str ra_nil)))) (rss_cons (rs_setLc (by rfl) (by rfl) (own := [("word", 4)]) h.toKb.calm h.toKb.nd (ri_iter (RE.of (rf_sl rfl (re_var 1) (ro_some re_int) (ro_some re_int)))) (show BlkOk ["text", "words", "numbers", "holds", "word", "hold", "gap", "length", "due", "late", "k", "one", "thing", "colon", "rest", "start", "dash", "end", "other"] (defScope s_l_law_read) _ [("word", 4)] from ⟨rfl, by decide +kernel, by decide +kernel, by decide +kernel, by decide +kernel⟩) (fun _ _ _ _ _ => (k_gname (Kb.blk h.toKb).nd)) (by decide) (fun _ _ _ _ _ => rts_nil) (fun _ _ _ _ _ => (k_call0 (Kb.blk h.toKb) (d_l_law_number T) (by decide) (ra_cons (re_var 4) ra_nil) (arity_cons arity_nil) rfl)) (hsw := sw_true rfl (by rfl) (by rfl) (by rfl))) (rss_cons (rs_if (RT.of (rw_or (k_tcmp x_lt (k_len h.toKb (f_len T) (ra_cons (re_var 1) ra_nil)) re_int) (rw_or1 (k_tcmp (x_in (Kb.s h.toKb)) re_non (re_var 2))))) (rss_one (rs_ret re_str)) rss_nil) (rss_cons (k_setOw h.toKb.nd (rf_lst ra_nil)) (rss_cons (rs_for h.hp h.toKb.calm (ri_iter (RE.of (rf_sl rfl (re_var 1) (ro_some re_int) ro_none))) (k_gname h.toKb.nd) (rss_cons (rs_asg (k_part (re_var 4) (ra_cons re_str ra_nil)) (rg_tup rfl h.toKb.calm (rgs_cons (k_gname h.toKb.nd) (rgs_cons (k_gname h.toKb.nd) (rgs_cons (k_gname h.toKb.nd) rgs_nil))))) (rss_cons (rs_asg (k_part (re_var 14) (ra_cons re_str ra_nil)) (rg_tup rfl h.toKb.calm (rgs_cons (k_gname h.toKb.nd) (rgs_cons (k_gname h.toKb.nd) (rgs_cons (k_gname h.toKb.nd) rgs_nil))))) (rss_cons (k_set h.toKb.nd (re_tup (ra_cons (re_var 12) (ra_cons (k_call0 h.toKb (d_l_law_number T) (by decide) (ra_cons (re_var 15) ra_nil) (arity_cons arity_nil) rfl) (ra_cons (k_call0 h.toKb (d_l_law_number T) (by decide) (ra_cons (re_var 17) ra_nil) (arity_cons arity_nil) rfl) ra_nil))))) (rss_cons (rs_if (RT.of (rw_or (k_tcmp (x_eq (Kb.s h.toKb)) (re_var 13) re_str) (rw_or (k_tcmp (x_eq (Kb.s h.toKb)) (re_var 16) re_str) (rw_or1 (k_tcmp (x_in (Kb.s h.toKb)) re_non (re_var 5)))))) (rss_one (rs_ret re_str)) rss_nil) (rss_one (rs_expr (k_append (re_var 3) (ra_cons (re_var 5) ra_nil))))))))) (rss_cons (rs_asg (re_var 2) (rg_lst h.toKb.calm (rgs_cons (k_gname h.toKb.nd) (rgs_cons (k_gname h.toKb.nd) (rgs_cons (k_gname h.toKb.nd) (rgs_cons (k_gname h.toKb.nd) rgs_nil)))))) (rss_cons (rs_if (RT.of (rw_or (rt_not (rt_val (k_call0 h.toKb (d_l_law_name T) (by decide) (ra_cons (k_ix (Kb.s h.toKb) (re_var 1) re_int) ra_nil) (arity_cons arity_nil) rfl))) (rw_or (k_tcmp x_lt (re_var 6) re_int) (rw_or (k_tcmp x_lt (re_var 7) re_int) (rw_or (rt_not (k_tchain x_le x_le re_int (re_var 8) (re_var 6))) (rw_or1 (k_tcmp x_gt (k_len h.toKb (f_len T) (ra_cons (re_var 3) ra_nil)) re_int))))))) (rss_one (rs_ret re_str)) rss_nil) (rss_frz 3 (rss_cons (rs_for h.hp h.toKb.calm (ri_enum rfl rfl (f_enumerate T) (ra_cons (re_var 3) ra_nil)) (rg_tup rfl h.toKb.calm (rgs_cons (k_gname h.toKb.nd) (rgs_cons (k_gname h.toKb.nd) rgs_nil))) (rss_cons (rs_if (RT.of (rw_or (rt_not (rt_val (k_call0 h.toKb (d_l_law_name T) (by decide) (ra_cons (k_ix (Kb.s h.toKb) (re_var 11) re_int) ra_nil) (arity_cons arity_nil) rfl))) (rw_or1 (rt_not (k_tchain x_lt x_lt (k_ix (Kb.s h.toKb) (re_var 11) re_int) (k_ix (Kb.s h.toKb) (re_var 11) re_int) (re_var 7)))))) (rss_one (rs_ret re_str)) rss_nil) (rss_one (rs_if (k_tcmp (x_in (Kb.s h.toKb)) re_bl (RE.of (rf_lc (own := [("other", 18)]) h.toKb.calm h.toKb.nd (ri_iter (RE.of (rf_sl rfl (re_var 3) ro_none (ro_some (re_var 10))))) (show BlkOk ["text", "words", "numbers", "holds", "word", "hold", "gap", "length", "due", "late", "k", "one", "thing", "colon", "rest", "start", "dash", "end", "other"] (defScope s_l_law_read) _ [("other", 18)] from ⟨rfl, by decide +kernel, by decide +kernel, by decide +kernel, by decide +kernel⟩) (fun _ _ _ _ _ => (k_gname (Kb.blk h.toKb).nd)) (by decide) (fun _ _ _ _ _ => rts_nil) (fun _ _ _ _ _ => (k_call0 (Kb.blk h.toKb) (d_l_law_fit T) (by decide) (ra_cons (re_var 11) (ra_cons (re_var 18) ra_nil)) (arity_cons (arity_cons arity_nil)) rfl))))) (rss_one (rs_ret re_str)) rss_nil)))) (rss_frz 3 (rss_one (rs_ret (re_tup (ra_cons (k_ix (Kb.s h.toKb) (re_var 1) re_int) (ra_cons (re_var 6) (ra_cons (re_var 7) (ra_cons (re_var 8) (ra_cons (re_var 9) (ra_cons (re_var 3) ra_nil)))))))))))))))))))
theorem d_l_law_read : DefOk P w mg base (CC K) 3 1 "_law_read" m_l_law_read [] := by
  obtain ⟨fd, F⟩ := T.c.d.def_ 36 (d := D_l_law_read) rfl
  have b := F.bindsN (ps := ["text"]) fun _ _ _ _ _ _ us hl => match us, hl with | [_], _ => rfl
  exact ⟨⟨_, f__law_read T, F.kp, fd, _, [], [], fn_okF (C := CC K) F sc_l_law_read (fun cdv A outer s H E hr => w_l_law_read T hr), b, .nil, rfl⟩⟩
/-! ### _law_word -/
omit T in
theorem sc_l_law_word : FnScope ["way", "text", "desk", "work"] ["way", "text", "desk"] (defScope s_l_law_word) := ⟨rfl, rfl, rfl, by decide +kernel, rfl, by decide +kernel, by decide +kernel⟩
theorem w_l_law_word {f : Addr} {cdv : Value} {A : Around} {outer : List Env} {s : Shared} {H : Hp} {E : XK} (hr : Room 11 (A.deeper (envOfC "_law_word" (defScope s_l_law_word) s.heap.objs.size f cdv))) :
    RSs (CC K) (cxOf (L2.CX P w) P w K mg base ["way", "text", "desk", "work"] "_law_word" (defScope s_l_law_word) f cdv A outer s H E) (fun cls d _ H => E cls d H) false (defBody s_l_law_word) b_l_law_word := by
  have h := Kx.of (P := P) (w := w) (C := CC K) (mg := mg) (base := base) (N := ["way", "text", "desk", "work"]) (outer := outer) (E := E) (H := H) sc_l_law_word.nd hr
  exact (rss_one (rs_try h.st h.fr h.toKb.nd h.toKb.tk (fun W' pn xe t q => (rss_cons (rs_if (k_tcmp (x_eq (Kb.s (Kx.tr h t q).toKb)) (re_var 0) re_int) (rss_one (rs_ret (k_ownC (pl := _) (Kx.tr h t q).toKb (dm_Desk_Desk_say T) (by decide) (re_var 2) (ra_cons (re_add re_str (re_var 1)) ra_nil) (arity_cons arity_nil) rfl))) rss_nil) (rss_cons (k_set (Kx.tr h t q).toKb.nd (k_call0 (Kx.tr h t q).toKb (d_read_work T) (by decide) (ra_cons (re_var 1) ra_nil) (arity_cons arity_nil) rfl)) (rss_one (rs_ret (re_tup (ra_cons (re_fld rfl (a_name T) (re_var 3)) (ra_cons (re_fld rfl (a_gap T) (re_var 3)) (ra_cons (re_fld rfl (a_length T) (re_var 3)) (ra_cons (re_fld rfl (a_due T) (re_var 3)) (ra_cons (re_fld rfl (a_late T) (re_var 3)) (ra_cons (k_ownR0 (pl := _) (Kx.tr h t q).toKb (dm_Work_Work_held T) (by decide) (re_var 3) rfl) ra_nil)))))))))))) (MClauses.bare ⟨rfl, by decide, .inl (f_NoText T)⟩ (exm_l_law_word_NoText T) (fun a oe k dd pn hk hz hf => (rss_one (rs_ret re_str))) (MClauses.bare ⟨rfl, by decide, .inl (f_BadWork T)⟩ (exm_l_law_word_BadWork T) (fun a oe k dd pn hk hz hf => (rss_one (rs_ret re_str))) (MClauses.bare ⟨rfl, by decide, .inl (f_DutyError T)⟩ (exm_l_law_word_DutyError T) (fun a oe k dd pn hk hz hf => (rss_one (rs_ret re_str))) MClauses.nil)))))
theorem d_l_law_word : DefOk P w mg base (CC K) 12 3 "_law_word" m_l_law_word [] := by
  obtain ⟨fd, F⟩ := T.c.d.def_ 37 (d := D_l_law_word) rfl
  have b := F.bindsN (ps := ["way", "text", "desk"]) fun _ _ _ _ _ _ us hl => match us, hl with | [_, _, _], _ => rfl
  exact ⟨⟨_, f__law_word T, F.kp, fd, _, [], [], fn_okF (C := CC K) F sc_l_law_word (fun cdv A outer s H E hr => w_l_law_word T hr), b, .nil, rfl⟩⟩
/-! ### _law_desk_right -/
omit T in
theorem sc_l_law_desk_right : FnScope ["desk", "due", "told", "text", "greatest", "crowd"] ["desk", "due", "told", "text"] (defScope s_l_law_desk_right) := ⟨rfl, rfl, rfl, by decide +kernel, rfl, by decide +kernel, by decide +kernel⟩
theorem w_l_law_desk_right {f : Addr} {cdv : Value} {A : Around} {outer : List Env} {s : Shared} {H : Hp} {E : XK} (hr : Room 11 (A.deeper (envOfC "_law_desk_right" (defScope s_l_law_desk_right) s.heap.objs.size f cdv))) :
    RSs (CC K) (cxOf (L2.CX P w) P w K mg base ["desk", "due", "told", "text", "greatest", "crowd"] "_law_desk_right" (defScope s_l_law_desk_right) f cdv A outer s H E) (fun cls d _ H => E cls d H) false (defBody s_l_law_desk_right) b_l_law_desk_right := by
  have h := Kx.of (P := P) (w := w) (C := CC K) (mg := mg) (base := base) (N := ["desk", "due", "told", "text", "greatest", "crowd"]) (outer := outer) (E := E) (H := H) sc_l_law_desk_right.nd hr
  exact (rss_cons (k_set h.toKb.nd (k_max2 h.toKb (f_max T) (ra_cons re_int (ra_cons (k_ix (Kb.s h.toKb) (re_var 1) re_int) ra_nil)))) (rss_cons (k_set h.toKb.nd (re_add (re_fdiv (re_add (re_var 4) re_int) re_int) (re_fdiv (re_sub (re_add (re_add (re_var 4) (k_ix (Kb.s h.toKb) (re_var 1) re_int)) (k_ix (Kb.s h.toKb) (re_var 1) re_int)) re_int) (k_ix (Kb.s h.toKb) (re_var 1) re_int)))) (rss_cons (rs_if (k_tcmp x_gt (re_var 5) re_int) (rss_one (rs_ret (k_cmp (x_eq (Kb.s h.toKb)) (re_var 2) (RE.of (rf_lst (ra_cons re_str (ra_cons (re_var 1) (ra_cons re_str ra_nil)))))))) rss_nil) (rss_one (rs_ret (re_and (k_cmp (x_eq (Kb.s h.toKb)) (re_var 2) (RE.of (rf_lst (ra_cons re_str (ra_cons (re_var 1) (ra_cons re_str ra_nil)))))) (re_one (k_cmp (x_eq (Kb.s h.toKb)) (k_ownC (pl := _) h.toKb (dm_Desk_Desk_say T) (by decide) (re_var 0) (ra_cons re_str ra_nil) (arity_cons arity_nil) rfl) (re_add re_str (re_var 3))))))))))
theorem d_l_law_desk_right : DefOk P w mg base (CC K) 12 4 "_law_desk_right" m_l_law_desk_right [] := by
  obtain ⟨fd, F⟩ := T.c.d.def_ 38 (d := D_l_law_desk_right) rfl
  have b := F.bindsN (ps := ["desk", "due", "told", "text"]) fun _ _ _ _ _ _ us hl => match us, hl with | [_, _, _, _], _ => rfl
  exact ⟨⟨_, f__law_desk_right T, F.kp, fd, _, [], [], fn_okF (C := CC K) F sc_l_law_desk_right (fun cdv A outer s H E hr => w_l_law_desk_right T hr), b, .nil, rfl⟩⟩
/-! ### law -/
omit T in
theorem sc_law : FnScope ["script", "cell", "well", "text", "k", "odd", "due", "desk", "told"] ["script"] (defScope s_law) := ⟨rfl, rfl, rfl, by decide +kernel, rfl, by decide +kernel, by decide +kernel⟩
theorem w_law {f : Addr} {cdv : Value} {A : Around} {outer : List Env} {s : Shared} {H : Hp} {E : XK} (hr : Room 12 (A.deeper (envOfC "law" (defScope s_law) s.heap.objs.size f cdv))) :
    RSs (CC K) (cxOf (L2.CX P w) P w K mg base ["script", "cell", "well", "text", "k", "odd", "due", "desk", "told"] "law" (defScope s_law) f cdv A outer s H E) (fun cls d _ H => E cls d H) false (defBody s_law) b_law := by
  have h := Kx.of (P := P) (w := w) (C := CC K) (mg := mg) (base := base) (N := ["script", "cell", "well", "text", "k", "odd", "due", "desk", "told"]) (outer := outer) (E := E) (H := H) sc_law.nd hr
  exact (rss_cons (rs_for h.hp h.toKb.calm (ri_iter (re_add (RE.of (rf_lst (ra_cons (k_call h.toKb (d_l_law_cell_at T) (by decide) (ra_cons (re_var 0) (ra_cons re_int ra_nil)) (arity_cons (arity_cons arity_nil)) rfl) ra_nil))) (RE.of (rf_sl rfl (re_var 0) (ro_some re_int) (ro_some re_int))))) (k_gname h.toKb.nd) (rss_cons (k_set h.toKb.nd (k_call h.toKb (d_l_law_well T) (by decide) (ra_cons (re_var 1) ra_nil) (arity_cons arity_nil) rfl)) (rss_cons (k_set h.toKb.nd (k_call h.toKb (d_l_law_text T) (by decide) (ra_cons (re_var 2) ra_nil) (arity_cons arity_nil) rfl)) (rss_cons (rs_if (RT.of (rw_or (rt_val (k_isi h.toKb (f_isinstance T) (f_str T) (k_call0 h.toKb (d_l_law_read T) (by decide) (ra_cons (re_var 3) ra_nil) (arity_cons arity_nil) rfl))) (rw_or1 (k_tcmp (x_ne (Kb.s h.toKb)) (k_call h.toKb (d_l_law_word T) (by decide) (ra_cons re_int (ra_cons (re_var 3) (ra_cons re_non ra_nil))) (arity_cons (arity_cons (arity_cons arity_nil))) rfl) (k_call0 h.toKb (d_l_law_read T) (by decide) (ra_cons (re_var 3) ra_nil) (arity_cons arity_nil) rfl))))) (rss_one (rs_ret re_bl)) rss_nil) (rss_one (rs_for h.hp h.toKb.calm (ri_range1 rfl (f_range T) (ra_cons re_int ra_nil)) (k_gname h.toKb.nd) (rss_cons (k_set h.toKb.nd (k_call h.toKb (d_l_law_spoilt T) (by decide) (ra_cons (re_var 2) (ra_cons (re_var 3) ra_nil)) (arity_cons (arity_cons arity_nil)) rfl)) (rss_cons (k_set h.toKb.nd (k_call0 h.toKb (d_l_law_read T) (by decide) (ra_cons (re_var 5) ra_nil) (arity_cons arity_nil) rfl)) (rss_cons (k_set h.toKb.nd (k_makeN h.toKb (d_Desk_new T) (by decide) rfl)) (rss_cons (k_set h.toKb.nd (RE.of (rf_lst (ra_cons (k_ownC (pl := _) h.toKb (dm_Desk_Desk_say T) (by decide) (re_var 7) (ra_cons re_str ra_nil) (arity_cons arity_nil) rfl) (ra_cons (k_call h.toKb (d_l_law_word T) (by decide) (ra_cons re_int (ra_cons (re_var 5) (ra_cons (re_var 7) ra_nil))) (arity_cons (arity_cons (arity_cons arity_nil))) rfl) (ra_cons (k_call h.toKb (d_l_law_word T) (by decide) (ra_cons re_int (ra_cons (re_var 5) (ra_cons (re_var 7) ra_nil))) (arity_cons (arity_cons (arity_cons arity_nil))) rfl) ra_nil)))))) (rss_one (rs_if (rt_val (k_isi h.toKb (f_isinstance T) (f_str T) (re_var 6))) (rss_one (rs_if (RT.of (rw_or (k_tcmp (x_ne (Kb.s h.toKb)) (re_var 8) (RE.of (rf_lst (ra_cons re_str (ra_cons (re_var 6) (ra_cons (re_var 6) ra_nil)))))) (rw_or1 (k_tcmp (x_ne (Kb.s h.toKb)) (k_ownC (pl := _) h.toKb (dm_Desk_Desk_say T) (by decide) (re_var 7) (ra_cons re_str ra_nil) (arity_cons arity_nil) rfl) re_str)))) (rss_one (rs_ret re_bl)) rss_nil)) (rss_one (rs_if (RT.of (rw_and (k_tcmp (x_ne (Kb.s h.toKb)) (k_ix (Kb.s h.toKb) (re_var 6) re_int) re_str) (rw_and1 (rt_not (rt_val (k_call h.toKb (d_l_law_desk_right T) (by decide) (ra_cons (re_var 7) (ra_cons (re_var 6) (ra_cons (re_var 8) (ra_cons (re_var 5) ra_nil)))) (arity_cons (arity_cons (arity_cons (arity_cons arity_nil)))) rfl)))))) (rss_one (rs_ret re_bl)) rss_nil)))))))))))))) (rss_one (rs_ret re_bl)))
theorem d_law : DefOk P w mg base (CC K) 13 1 "law" m_law [] := by
  obtain ⟨fd, F⟩ := T.c.d.def_ 39 (d := D_law) rfl
  have b := F.bindsN (ps := ["script"]) fun _ _ _ _ _ _ us hl => match us, hl with | [_], _ => rfl
  exact ⟨⟨_, f_law T, F.kp, fd, _, [], [], fn_okF (C := CC K) F sc_law (fun cdv A outer s H E hr => w_law T hr), b, .nil, rfl⟩⟩
end
end K85
end
section
set_option Elab.async false
set_option linter.all false
set_option maxRecDepth 100000
set_option autoImplicit false
set_option maxHeartbeats 1000000
/-! K85p: what the m-terms compute, in plain Lean. -/
namespace K85
open PySem ML
theorem p_is_whole (i : Int) (cs : List D) : m_is_whole [.int i] cs = .ok (.bl true) cs := by
  unfold m_is_whole b_is_whole
  simp [runF, mSeq, mIf, mRet, mSkip, mVar, mC, mOp, mIsi, mNotV, mAndV, mOrV, mTest, mOr, mAnd, mNot, mCall0, lend_clean, back0, resD_clean, clean_non, clean_bl, clean_int, clean_str, clean_lst, clean_tup, clean_dct, clean_obj, cleanL_nil, cleanL_cons, mCons, mNil, ML.R.bind, ML.R.thenS, setS, lift2, cont_clean, cont_cell, cont_scr, cont_exn, contL, mCB, isSlot_clean, isSlot_cell, isSlot_exn, isSlot_slot, mAsg, gTp, gLs, gsCons, gsNil, gNm, mAug, tyD, kb_ii, kb_ib, kb_bi, kb_bb, kb_si, kb_ss, kb_tt, kb_ll, kb_tl, kb_sl, kb_dl, kb_il, kb_bl, mChain, mChain3, mSet, mSetOw, mRetN, mRaise, mDisp, noSlots, mDrop, mIter, mMeth, ofTy, mFor, forL, mPutF, mFld, putP, lookN, putN, flatB, flatD, max2D, min2D, mPart, mNoPart, mSl, orF, orC, gtD, ltD, leD, leI, geD, subI, addD_ii, modI, isN, isntN, mIfE, mNeg, mBreak, mCont, orE, boxed, ofStr_eq, mMake0, madeR, mOwn, methR, methC, backC, mCell, mSetKey, mSetIx, setL, mAugIx, mCall, mMake, madeC, mLc, mYes, wipeS, backS, backE, mMaxDf, intsD, mIsK, mFrz, frzS, size_le, size_lt, cleanL_append, mMut, appendU, cont_slotE, List.any, List.all]
theorem p_from_on (i j : Int) (cs : List D) : m_from_on [.int i, .int j] cs = .ok (.bl (decide (j ≤ i))) cs := by
  unfold m_from_on b_from_on
  simp [runF, mSeq, mIf, mRet, mSkip, mVar, mC, mOp, mIsi, mNotV, mAndV, mOrV, mTest, mOr, mAnd, mNot, mCall0, lend_clean, back0, resD_clean, clean_non, clean_bl, clean_int, clean_str, clean_lst, clean_tup, clean_dct, clean_obj, cleanL_nil, cleanL_cons, mCons, mNil, ML.R.bind, ML.R.thenS, setS, lift2, cont_clean, cont_cell, cont_scr, cont_exn, contL, mCB, isSlot_clean, isSlot_cell, isSlot_exn, isSlot_slot, mAsg, gTp, gLs, gsCons, gsNil, gNm, mAug, tyD, kb_ii, kb_ib, kb_bi, kb_bb, kb_si, kb_ss, kb_tt, kb_ll, kb_tl, kb_sl, kb_dl, kb_il, kb_bl, mChain, mChain3, mSet, mSetOw, mRetN, mRaise, mDisp, noSlots, mDrop, mIter, mMeth, ofTy, mFor, forL, mPutF, mFld, putP, lookN, putN, flatB, flatD, max2D, min2D, mPart, mNoPart, mSl, orF, orC, gtD, ltD, leD, leI, geD, subI, addD_ii, modI, isN, isntN, mIfE, mNeg, mBreak, mCont, orE, boxed, ofStr_eq, mMake0, madeR, mOwn, methR, methC, backC, mCell, mSetKey, mSetIx, setL, mAugIx, mCall, mMake, madeC, mLc, mYes, wipeS, backS, backE, mMaxDf, intsD, mIsK, mFrz, frzS, size_le, size_lt, cleanL_append, mMut, appendU, cont_slotE, List.any, List.all, p_is_whole]
/-- a hold -/
abbrev Ho := Str × Int × Int
def hoD (h : Ho) : D := .tup [.str h.1, .int h.2.1, .int h.2.2]
def inB (a b : Ho) : Bool := decide (b.2.1 ≤ a.2.1) && decide (a.2.2 ≤ b.2.2)
def togB (a b : Ho) : Bool := (decide (a.2.2 ≤ b.2.1) || decide (b.2.2 ≤ a.2.1)) || (!decide (a.1 = b.1) && (inB a b || inB b a))
theorem clean_ho (h : Ho) : clean (hoD h) = true := Eq.trans rfl rfl
theorem cleanL_ho : ∀ hs : List Ho, cleanL (hs.map hoD) = true
  | [] => Eq.trans rfl rfl
  | h :: hs => by rw [List.map_cons, cleanL_cons, clean_ho, cleanL_ho hs] <;> rfl
theorem cont_ho (s : S) (h : Ho) : cont s (hoD h) = some (hoD h) := Eq.trans rfl rfl
theorem ho0 (h : Ho) : ixD (hoD h) (.int 0) = some (.str h.1) := Eq.trans rfl rfl
theorem ho1 (h : Ho) : ixD (hoD h) (.int 1) = some (.int h.2.1) := Eq.trans rfl rfl
theorem ho2 (h : Ho) : ixD (hoD h) (.int 2) = some (.int h.2.2) := Eq.trans rfl rfl
theorem p_within (a b : Ho) (cs : List D) : m_within [hoD a, hoD b] cs = .ok (.bl (inB a b)) cs := by
  unfold m_within b_within hoD inB
  simp [runF, mSeq, mIf, mRet, mSkip, mVar, mC, mOp, mIsi, mNotV, mAndV, mOrV, mTest, mOr, mAnd, mNot, mCall0, lend_clean, back0, resD_clean, clean_non, clean_bl, clean_int, clean_str, clean_lst, clean_tup, clean_dct, clean_obj, cleanL_nil, cleanL_cons, mCons, mNil, ML.R.bind, ML.R.thenS, setS, lift2, cont_clean, cont_cell, cont_scr, cont_exn, contL, mCB, isSlot_clean, isSlot_cell, isSlot_exn, isSlot_slot, mAsg, gTp, gLs, gsCons, gsNil, gNm, mAug, tyD, kb_ii, kb_ib, kb_bi, kb_bb, kb_si, kb_ss, kb_tt, kb_ll, kb_tl, kb_sl, kb_dl, kb_il, kb_bl, mChain, mChain3, mSet, mSetOw, mRetN, mRaise, mDisp, noSlots, mDrop, mIter, mMeth, ofTy, mFor, forL, mPutF, mFld, putP, lookN, putN, flatB, flatD, max2D, min2D, mPart, mNoPart, mSl, orF, orC, gtD, ltD, leD, leI, geD, subI, addD_ii, modI, isN, isntN, mIfE, mNeg, mBreak, mCont, orE, boxed, ofStr_eq, mMake0, madeR, mOwn, methR, methC, backC, mCell, mSetKey, mSetIx, setL, mAugIx, mCall, mMake, madeC, mLc, mYes, wipeS, backS, backE, mMaxDf, intsD, mIsK, mFrz, frzS, size_le, size_lt, cleanL_append, mMut, appendU, cont_slotE, List.any, List.all, ix3_0, ix3_1, ix3_2]
  by_cases h : b.2.1 ≤ a.2.1
  · simp [runF, mSeq, mIf, mRet, mSkip, mVar, mC, mOp, mIsi, mNotV, mAndV, mOrV, mTest, mOr, mAnd, mNot, mCall0, lend_clean, back0, resD_clean, clean_non, clean_bl, clean_int, clean_str, clean_lst, clean_tup, clean_dct, clean_obj, cleanL_nil, cleanL_cons, mCons, mNil, ML.R.bind, ML.R.thenS, setS, lift2, cont_clean, cont_cell, cont_scr, cont_exn, contL, mCB, isSlot_clean, isSlot_cell, isSlot_exn, isSlot_slot, mAsg, gTp, gLs, gsCons, gsNil, gNm, mAug, tyD, kb_ii, kb_ib, kb_bi, kb_bb, kb_si, kb_ss, kb_tt, kb_ll, kb_tl, kb_sl, kb_dl, kb_il, kb_bl, mChain, mChain3, mSet, mSetOw, mRetN, mRaise, mDisp, noSlots, mDrop, mIter, mMeth, ofTy, mFor, forL, mPutF, mFld, putP, lookN, putN, flatB, flatD, max2D, min2D, mPart, mNoPart, mSl, orF, orC, gtD, ltD, leD, leI, geD, subI, addD_ii, modI, isN, isntN, mIfE, mNeg, mBreak, mCont, orE, boxed, ofStr_eq, mMake0, madeR, mOwn, methR, methC, backC, mCell, mSetKey, mSetIx, setL, mAugIx, mCall, mMake, madeC, mLc, mYes, wipeS, backS, backE, mMaxDf, intsD, mIsK, mFrz, frzS, size_le, size_lt, cleanL_append, mMut, appendU, cont_slotE, List.any, List.all, h]
  · simp [runF, mSeq, mIf, mRet, mSkip, mVar, mC, mOp, mIsi, mNotV, mAndV, mOrV, mTest, mOr, mAnd, mNot, mCall0, lend_clean, back0, resD_clean, clean_non, clean_bl, clean_int, clean_str, clean_lst, clean_tup, clean_dct, clean_obj, cleanL_nil, cleanL_cons, mCons, mNil, ML.R.bind, ML.R.thenS, setS, lift2, cont_clean, cont_cell, cont_scr, cont_exn, contL, mCB, isSlot_clean, isSlot_cell, isSlot_exn, isSlot_slot, mAsg, gTp, gLs, gsCons, gsNil, gNm, mAug, tyD, kb_ii, kb_ib, kb_bi, kb_bb, kb_si, kb_ss, kb_tt, kb_ll, kb_tl, kb_sl, kb_dl, kb_il, kb_bl, mChain, mChain3, mSet, mSetOw, mRetN, mRaise, mDisp, noSlots, mDrop, mIter, mMeth, ofTy, mFor, forL, mPutF, mFld, putP, lookN, putN, flatB, flatD, max2D, min2D, mPart, mNoPart, mSl, orF, orC, gtD, ltD, leD, leI, geD, subI, addD_ii, modI, isN, isntN, mIfE, mNeg, mBreak, mCont, orE, boxed, ofStr_eq, mMake0, madeR, mOwn, methR, methC, backC, mCell, mSetKey, mSetIx, setL, mAugIx, mCall, mMake, madeC, mLc, mYes, wipeS, backS, backE, mMaxDf, intsD, mIsK, mFrz, frzS, size_le, size_lt, cleanL_append, mMut, appendU, cont_slotE, List.any, List.all, h]
theorem p_together (a b : Ho) (cs : List D) : m_together [hoD a, hoD b] cs = .ok (.bl (togB a b)) cs := by
  have e1 := p_within a b []
  have e2 := p_within b a []
  unfold m_together b_together togB
  unfold hoD at e1 e2 ⊢
  by_cases h1 : a.2.2 ≤ b.2.1
  · simp [runF, mSeq, mIf, mRet, mSkip, mVar, mC, mOp, mIsi, mNotV, mAndV, mOrV, mTest, mOr, mAnd, mNot, mCall0, lend_clean, back0, resD_clean, clean_non, clean_bl, clean_int, clean_str, clean_lst, clean_tup, clean_dct, clean_obj, cleanL_nil, cleanL_cons, mCons, mNil, ML.R.bind, ML.R.thenS, setS, lift2, cont_clean, cont_cell, cont_scr, cont_exn, contL, mCB, isSlot_clean, isSlot_cell, isSlot_exn, isSlot_slot, mAsg, gTp, gLs, gsCons, gsNil, gNm, mAug, tyD, kb_ii, kb_ib, kb_bi, kb_bb, kb_si, kb_ss, kb_tt, kb_ll, kb_tl, kb_sl, kb_dl, kb_il, kb_bl, mChain, mChain3, mSet, mSetOw, mRetN, mRaise, mDisp, noSlots, mDrop, mIter, mMeth, ofTy, mFor, forL, mPutF, mFld, putP, lookN, putN, flatB, flatD, max2D, min2D, mPart, mNoPart, mSl, orF, orC, gtD, ltD, leD, leI, geD, subI, addD_ii, modI, isN, isntN, mIfE, mNeg, mBreak, mCont, orE, boxed, ofStr_eq, mMake0, madeR, mOwn, methR, methC, backC, mCell, mSetKey, mSetIx, setL, mAugIx, mCall, mMake, madeC, mLc, mYes, wipeS, backS, backE, mMaxDf, intsD, mIsK, mFrz, frzS, size_le, size_lt, cleanL_append, mMut, appendU, cont_slotE, List.any, List.all, ix3_0, ix3_1, ix3_2, h1]
  · by_cases h2 : b.2.2 ≤ a.2.1
    · simp [runF, mSeq, mIf, mRet, mSkip, mVar, mC, mOp, mIsi, mNotV, mAndV, mOrV, mTest, mOr, mAnd, mNot, mCall0, lend_clean, back0, resD_clean, clean_non, clean_bl, clean_int, clean_str, clean_lst, clean_tup, clean_dct, clean_obj, cleanL_nil, cleanL_cons, mCons, mNil, ML.R.bind, ML.R.thenS, setS, lift2, cont_clean, cont_cell, cont_scr, cont_exn, contL, mCB, isSlot_clean, isSlot_cell, isSlot_exn, isSlot_slot, mAsg, gTp, gLs, gsCons, gsNil, gNm, mAug, tyD, kb_ii, kb_ib, kb_bi, kb_bb, kb_si, kb_ss, kb_tt, kb_ll, kb_tl, kb_sl, kb_dl, kb_il, kb_bl, mChain, mChain3, mSet, mSetOw, mRetN, mRaise, mDisp, noSlots, mDrop, mIter, mMeth, ofTy, mFor, forL, mPutF, mFld, putP, lookN, putN, flatB, flatD, max2D, min2D, mPart, mNoPart, mSl, orF, orC, gtD, ltD, leD, leI, geD, subI, addD_ii, modI, isN, isntN, mIfE, mNeg, mBreak, mCont, orE, boxed, ofStr_eq, mMake0, madeR, mOwn, methR, methC, backC, mCell, mSetKey, mSetIx, setL, mAugIx, mCall, mMake, madeC, mLc, mYes, wipeS, backS, backE, mMaxDf, intsD, mIsK, mFrz, frzS, size_le, size_lt, cleanL_append, mMut, appendU, cont_slotE, List.any, List.all, ix3_0, ix3_1, ix3_2, h1, h2]
    · by_cases h3 : a.1 = b.1
      · simp [runF, mSeq, mIf, mRet, mSkip, mVar, mC, mOp, mIsi, mNotV, mAndV, mOrV, mTest, mOr, mAnd, mNot, mCall0, lend_clean, back0, resD_clean, clean_non, clean_bl, clean_int, clean_str, clean_lst, clean_tup, clean_dct, clean_obj, cleanL_nil, cleanL_cons, mCons, mNil, ML.R.bind, ML.R.thenS, setS, lift2, cont_clean, cont_cell, cont_scr, cont_exn, contL, mCB, isSlot_clean, isSlot_cell, isSlot_exn, isSlot_slot, mAsg, gTp, gLs, gsCons, gsNil, gNm, mAug, tyD, kb_ii, kb_ib, kb_bi, kb_bb, kb_si, kb_ss, kb_tt, kb_ll, kb_tl, kb_sl, kb_dl, kb_il, kb_bl, mChain, mChain3, mSet, mSetOw, mRetN, mRaise, mDisp, noSlots, mDrop, mIter, mMeth, ofTy, mFor, forL, mPutF, mFld, putP, lookN, putN, flatB, flatD, max2D, min2D, mPart, mNoPart, mSl, orF, orC, gtD, ltD, leD, leI, geD, subI, addD_ii, modI, isN, isntN, mIfE, mNeg, mBreak, mCont, orE, boxed, ofStr_eq, mMake0, madeR, mOwn, methR, methC, backC, mCell, mSetKey, mSetIx, setL, mAugIx, mCall, mMake, madeC, mLc, mYes, wipeS, backS, backE, mMaxDf, intsD, mIsK, mFrz, frzS, size_le, size_lt, cleanL_append, mMut, appendU, cont_slotE, List.any, List.all, ix3_0, ix3_1, ix3_2, h1, h2, h3, eq_ss]
      · cases h4 : inB a b
        · simp [runF, mSeq, mIf, mRet, mSkip, mVar, mC, mOp, mIsi, mNotV, mAndV, mOrV, mTest, mOr, mAnd, mNot, mCall0, lend_clean, back0, resD_clean, clean_non, clean_bl, clean_int, clean_str, clean_lst, clean_tup, clean_dct, clean_obj, cleanL_nil, cleanL_cons, mCons, mNil, ML.R.bind, ML.R.thenS, setS, lift2, cont_clean, cont_cell, cont_scr, cont_exn, contL, mCB, isSlot_clean, isSlot_cell, isSlot_exn, isSlot_slot, mAsg, gTp, gLs, gsCons, gsNil, gNm, mAug, tyD, kb_ii, kb_ib, kb_bi, kb_bb, kb_si, kb_ss, kb_tt, kb_ll, kb_tl, kb_sl, kb_dl, kb_il, kb_bl, mChain, mChain3, mSet, mSetOw, mRetN, mRaise, mDisp, noSlots, mDrop, mIter, mMeth, ofTy, mFor, forL, mPutF, mFld, putP, lookN, putN, flatB, flatD, max2D, min2D, mPart, mNoPart, mSl, orF, orC, gtD, ltD, leD, leI, geD, subI, addD_ii, modI, isN, isntN, mIfE, mNeg, mBreak, mCont, orE, boxed, ofStr_eq, mMake0, madeR, mOwn, methR, methC, backC, mCell, mSetKey, mSetIx, setL, mAugIx, mCall, mMake, madeC, mLc, mYes, wipeS, backS, backE, mMaxDf, intsD, mIsK, mFrz, frzS, size_le, size_lt, cleanL_append, mMut, appendU, cont_slotE, List.any, List.all, ix3_0, ix3_1, ix3_2, h1, h2, h3, eq_ss, h4, e1, e2]
        · simp [runF, mSeq, mIf, mRet, mSkip, mVar, mC, mOp, mIsi, mNotV, mAndV, mOrV, mTest, mOr, mAnd, mNot, mCall0, lend_clean, back0, resD_clean, clean_non, clean_bl, clean_int, clean_str, clean_lst, clean_tup, clean_dct, clean_obj, cleanL_nil, cleanL_cons, mCons, mNil, ML.R.bind, ML.R.thenS, setS, lift2, cont_clean, cont_cell, cont_scr, cont_exn, contL, mCB, isSlot_clean, isSlot_cell, isSlot_exn, isSlot_slot, mAsg, gTp, gLs, gsCons, gsNil, gNm, mAug, tyD, kb_ii, kb_ib, kb_bi, kb_bb, kb_si, kb_ss, kb_tt, kb_ll, kb_tl, kb_sl, kb_dl, kb_il, kb_bl, mChain, mChain3, mSet, mSetOw, mRetN, mRaise, mDisp, noSlots, mDrop, mIter, mMeth, ofTy, mFor, forL, mPutF, mFld, putP, lookN, putN, flatB, flatD, max2D, min2D, mPart, mNoPart, mSl, orF, orC, gtD, ltD, leD, leI, geD, subI, addD_ii, modI, isN, isntN, mIfE, mNeg, mBreak, mCont, orE, boxed, ofStr_eq, mMake0, madeR, mOwn, methR, methC, backC, mCell, mSetKey, mSetIx, setL, mAugIx, mCall, mMake, madeC, mLc, mYes, wipeS, backS, backE, mMaxDf, intsD, mIsK, mFrz, frzS, size_le, size_lt, cleanL_append, mMut, appendU, cont_slotE, List.any, List.all, ix3_0, ix3_1, ix3_2, h1, h2, h3, eq_ss, h4, e1, e2]
/-- a hold that is one, of a work of L turns -/
structure HoldOk (L : Int) (h : Ho) : Prop where
  nm : m_is_name [.str h.1] [] = .ok (.bl true) []
  lo : 0 ≤ h.2.1
  mid : h.2.1 < h.2.2
  hi : h.2.2 < L
theorem p_is_hold {L : Int} {h : Ho} (k : HoldOk L h) (cs : List D) : m_is_hold [hoD h, .int L] cs = .ok (.bl true) cs := by
  have e := k.nm
  have h1 := k.lo
  have h2 := k.mid
  have h3 := k.hi
  unfold m_is_hold b_is_hold hoD
  simp [runF, mSeq, mIf, mRet, mSkip, mVar, mC, mOp, mIsi, mNotV, mAndV, mOrV, mTest, mOr, mAnd, mNot, mCall0, lend_clean, back0, resD_clean, clean_non, clean_bl, clean_int, clean_str, clean_lst, clean_tup, clean_dct, clean_obj, cleanL_nil, cleanL_cons, mCons, mNil, ML.R.bind, ML.R.thenS, setS, lift2, cont_clean, cont_cell, cont_scr, cont_exn, contL, mCB, isSlot_clean, isSlot_cell, isSlot_exn, isSlot_slot, mAsg, gTp, gLs, gsCons, gsNil, gNm, mAug, tyD, kb_ii, kb_ib, kb_bi, kb_bb, kb_si, kb_ss, kb_tt, kb_ll, kb_tl, kb_sl, kb_dl, kb_il, kb_bl, mChain, mChain3, mSet, mSetOw, mRetN, mRaise, mDisp, noSlots, mDrop, mIter, mMeth, ofTy, mFor, forL, mPutF, mFld, putP, lookN, putN, flatB, flatD, max2D, min2D, mPart, mNoPart, mSl, orF, orC, gtD, ltD, leD, leI, geD, subI, addD_ii, modI, isN, isntN, mIfE, mNeg, mBreak, mCont, orE, boxed, ofStr_eq, mMake0, madeR, mOwn, methR, methC, backC, mCell, mSetKey, mSetIx, setL, mAugIx, mCall, mMake, madeC, mLc, mYes, wipeS, backS, backE, mMaxDf, intsD, mIsK, mFrz, frzS, size_le, size_lt, cleanL_append, mMut, appendU, cont_slotE, List.any, List.all, ix3_0, ix3_1, ix3_2, e, p_is_whole, lenD, ne_ii, h1, h2, h3]
def fitsB : List Ho → Bool
  | [] => true
  | h :: hs => hs.all (fun g => togB h g) && fitsB hs
/-- each fits with those ahead of it -/
def fitAt (hs : List Ho) (k : Nat) : Bool := match hs[k]? with
  | some h => (hs.take k).all fun g => togB g h
  | none => true
abbrev stF (hs : List Ho) (L : Int) (a b : Sl) : S := ⟨[.fz (.lst (hs.map hoD)), .fz (.int L), a, b], []⟩
theorem fit_in {L : Int} {hs : List Ho} {x : Nat} {h y : Ho} (hm : ixD (.lst (hs.map hoD)) (.int (x : Nat)) = some (hoD h)) (b : Sl) : b_holds_fit_2 (stF hs L (.fz (.int (x : Nat))) (.fz (hoD y))) = if togB y h = true then .nx (stF hs L (.fz (.int (x : Nat))) (.fz (hoD y))) else .rt (.bl false) (stF hs L (.fz (.int (x : Nat))) (.fz (hoD y))) := by
  have ht := p_together y h []
  unfold b_holds_fit_2
  cases hp : togB y h
  · simp [runF, mSeq, mIf, mRet, mSkip, mVar, mC, mOp, mIsi, mNotV, mAndV, mOrV, mTest, mOr, mAnd, mNot, mCall0, lend_clean, back0, resD_clean, clean_non, clean_bl, clean_int, clean_str, clean_lst, clean_tup, clean_dct, clean_obj, cleanL_nil, cleanL_cons, mCons, mNil, ML.R.bind, ML.R.thenS, setS, lift2, cont_clean, cont_cell, cont_scr, cont_exn, contL, mCB, isSlot_clean, isSlot_cell, isSlot_exn, isSlot_slot, mAsg, gTp, gLs, gsCons, gsNil, gNm, mAug, tyD, kb_ii, kb_ib, kb_bi, kb_bb, kb_si, kb_ss, kb_tt, kb_ll, kb_tl, kb_sl, kb_dl, kb_il, kb_bl, mChain, mChain3, mSet, mSetOw, mRetN, mRaise, mDisp, noSlots, mDrop, mIter, mMeth, ofTy, mFor, forL, mPutF, mFld, putP, lookN, putN, flatB, flatD, max2D, min2D, mPart, mNoPart, mSl, orF, orC, gtD, ltD, leD, leI, geD, subI, addD_ii, modI, isN, isntN, mIfE, mNeg, mBreak, mCont, orE, boxed, ofStr_eq, mMake0, madeR, mOwn, methR, methC, backC, mCell, mSetKey, mSetIx, setL, mAugIx, mCall, mMake, madeC, mLc, mYes, wipeS, backS, backE, mMaxDf, intsD, mIsK, mFrz, frzS, size_le, size_lt, cleanL_append, mMut, appendU, cont_slotE, List.any, List.all, cleanL_ho, clean_ho, hm, ht, hp]
  · simp [runF, mSeq, mIf, mRet, mSkip, mVar, mC, mOp, mIsi, mNotV, mAndV, mOrV, mTest, mOr, mAnd, mNot, mCall0, lend_clean, back0, resD_clean, clean_non, clean_bl, clean_int, clean_str, clean_lst, clean_tup, clean_dct, clean_obj, cleanL_nil, cleanL_cons, mCons, mNil, ML.R.bind, ML.R.thenS, setS, lift2, cont_clean, cont_cell, cont_scr, cont_exn, contL, mCB, isSlot_clean, isSlot_cell, isSlot_exn, isSlot_slot, mAsg, gTp, gLs, gsCons, gsNil, gNm, mAug, tyD, kb_ii, kb_ib, kb_bi, kb_bb, kb_si, kb_ss, kb_tt, kb_ll, kb_tl, kb_sl, kb_dl, kb_il, kb_bl, mChain, mChain3, mSet, mSetOw, mRetN, mRaise, mDisp, noSlots, mDrop, mIter, mMeth, ofTy, mFor, forL, mPutF, mFld, putP, lookN, putN, flatB, flatD, max2D, min2D, mPart, mNoPart, mSl, orF, orC, gtD, ltD, leD, leI, geD, subI, addD_ii, modI, isN, isntN, mIfE, mNeg, mBreak, mCont, orE, boxed, ofStr_eq, mMake0, madeR, mOwn, methR, methC, backC, mCell, mSetKey, mSetIx, setL, mAugIx, mCall, mMake, madeC, mLc, mYes, wipeS, backS, backE, mMaxDf, intsD, mIsK, mFrz, frzS, size_le, size_lt, cleanL_append, mMut, appendU, cont_slotE, List.any, List.all, cleanL_ho, clean_ho, hm, ht, hp]
theorem fit_turn {L : Int} {hs : List Ho} {x : Nat} {h : Ho} (hm : ixD (.lst (hs.map hoD)) (.int (x : Nat)) = some (hoD h)) (k : HoldOk L h) (b : Sl) : b_holds_fit_1 (stF hs L (.fz (.int (x : Nat))) b) = forL (gNm 3) b_holds_fit_2 ((hs.take x).map hoD) (stF hs L (.fz (.int (x : Nat))) b) := by
  have hh := p_is_hold k []
  have hsl := slL_to (hs.map hoD) x
  unfold b_holds_fit_1
  simp [runF, mSeq, mIf, mRet, mSkip, mVar, mC, mOp, mIsi, mNotV, mAndV, mOrV, mTest, mOr, mAnd, mNot, mCall0, lend_clean, back0, resD_clean, clean_non, clean_bl, clean_int, clean_str, clean_lst, clean_tup, clean_dct, clean_obj, cleanL_nil, cleanL_cons, mCons, mNil, ML.R.bind, ML.R.thenS, setS, lift2, cont_clean, cont_cell, cont_scr, cont_exn, contL, mCB, isSlot_clean, isSlot_cell, isSlot_exn, isSlot_slot, mAsg, gTp, gLs, gsCons, gsNil, gNm, mAug, tyD, kb_ii, kb_ib, kb_bi, kb_bb, kb_si, kb_ss, kb_tt, kb_ll, kb_tl, kb_sl, kb_dl, kb_il, kb_bl, mChain, mChain3, mSet, mSetOw, mRetN, mRaise, mDisp, noSlots, mDrop, mIter, mMeth, ofTy, mFor, forL, mPutF, mFld, putP, lookN, putN, flatB, flatD, max2D, min2D, mPart, mNoPart, mSl, orF, orC, gtD, ltD, leD, leI, geD, subI, addD_ii, modI, isN, isntN, mIfE, mNeg, mBreak, mCont, orE, boxed, ofStr_eq, mMake0, madeR, mOwn, methR, methC, backC, mCell, mSetKey, mSetIx, setL, mAugIx, mCall, mMake, madeC, mLc, mYes, wipeS, backS, backE, mMaxDf, intsD, mIsK, mFrz, frzS, size_le, size_lt, cleanL_append, mMut, appendU, cont_slotE, List.any, List.all, cleanL_ho, clean_ho, hm, hh, hsl, List.map_take]
theorem fit_end {L : Int} {hs : List Ho} (hl : hs.length ≤ 6) : m_holds_fit [.lst (hs.map hoD), .int L] [] = runF 4 (mSeq (fun s => forL (gNm 2) b_holds_fit_1 ((List.range hs.length).map fun k => D.int (k : Nat)) s) (mRet (mC (.bl true)))) [.lst (hs.map hoD), .int L] [] := by
  have hl6 : ¬ (6 : Int) < (hs.length : Int) := by omega
  have hr : ok62 (hs.length : Int) := ok62_nat (by omega)
  unfold m_holds_fit b_holds_fit
  simp [runF, mSeq, mIf, mRet, mSkip, mVar, mC, mOp, mIsi, mNotV, mAndV, mOrV, mTest, mOr, mAnd, mNot, mCall0, lend_clean, back0, resD_clean, clean_non, clean_bl, clean_int, clean_str, clean_lst, clean_tup, clean_dct, clean_obj, cleanL_nil, cleanL_cons, mCons, mNil, ML.R.bind, ML.R.thenS, setS, lift2, cont_clean, cont_cell, cont_scr, cont_exn, contL, mCB, isSlot_clean, isSlot_cell, isSlot_exn, isSlot_slot, mAsg, gTp, gLs, gsCons, gsNil, gNm, mAug, tyD, kb_ii, kb_ib, kb_bi, kb_bb, kb_si, kb_ss, kb_tt, kb_ll, kb_tl, kb_sl, kb_dl, kb_il, kb_bl, mChain, mChain3, mSet, mSetOw, mRetN, mRaise, mDisp, noSlots, mDrop, mIter, mMeth, ofTy, mFor, forL, mPutF, mFld, putP, lookN, putN, flatB, flatD, max2D, min2D, mPart, mNoPart, mSl, orF, orC, gtD, ltD, leD, leI, geD, subI, addD_ii, modI, isN, isntN, mIfE, mNeg, mBreak, mCont, orE, boxed, ofStr_eq, mMake0, madeR, mOwn, methR, methC, backC, mCell, mSetKey, mSetIx, setL, mAugIx, mCall, mMake, madeC, mLc, mYes, wipeS, backS, backE, mMaxDf, intsD, mIsK, mFrz, frzS, size_le, size_lt, cleanL_append, mMut, appendU, cont_slotE, List.any, List.all, cleanL_ho, lenD, hl6, hr, mRange1, rangeD_map]
theorem p_holds_fit {L : Int} {hs : List Ho} (k : ∀ h ∈ hs, HoldOk L h) (hl : hs.length ≤ 6) : m_holds_fit [.lst (hs.map hoD), .int L] [] = .ok (.bl ((List.range hs.length).all (fitAt hs))) [] := by
  rw [fit_end hl]
  have key := forL_inv (g := gNm 2) (b := b_holds_fit_1) (fun k : Nat => D.int (k : Nat)) (fitAt hs) (fun _ s => ∃ a b, s = stF hs L a b) (fun f => ∃ a b, f = .rt (.bl false) (stF hs L a b)) (fun s => ⟨by simp, by simp, by simp⟩)
    (List.range hs.length) [] (stF hs L .no .no) ⟨_, _, rfl⟩ fun x l r s e ⟨a, b, es⟩ => by
      subst es
      obtain ⟨e1, e2, e3⟩ := range_split (by simpa using e)
      have hx : hs[x]? = some hs[x] := List.getElem?_eq_getElem e2
      have hm := ixL (ds := hs.map hoD) (k := x) (d := hoD hs[x]) (by rw [List.getElem?_map, hx]; rfl)
      have inner := forL_inv (g := gNm 3) (b := b_holds_fit_2) hoD (fun g => togB g hs[x]) (fun _ s => ∃ b, s = stF hs L (.fz (.int (x : Nat))) b)
        (fun f => ∃ b, f = .rt (.bl false) (stF hs L (.fz (.int (x : Nat))) b)) (fun s => ⟨by simp, by simp, by simp⟩) (hs.take x) [] (stF hs L (.fz (.int (x : Nat))) b) ⟨_, rfl⟩ fun y l r s e ⟨b, es⟩ => by
          subst es
          refine ⟨stF hs L (.fz (.int (x : Nat))) (.fz (hoD y)), rfl, fun hp => ⟨_, .inl ((fit_in hm b).trans (if_pos hp)), _, rfl⟩, fun hp => ⟨_, (fit_in hm b).trans (if_neg (by rw [hp]; exact Bool.false_ne_true))⟩⟩
      have hfit : fitAt hs x = (hs.take x).all fun g => togB g hs[x] := by unfold fitAt; rw [hx]
      refine ⟨stF hs L (.fz (.int (x : Nat))) b, rfl, fun hp => ?_, fun hp => ?_⟩
      · rw [hfit] at hp
        obtain ⟨s2, k1, b2, rfl⟩ := inner.1 hp
        exact ⟨_, .inl ((fit_turn hm (k _ (List.getElem_mem e2)) b).trans k1), _, _, rfl⟩
      · rw [hfit] at hp
        obtain ⟨b2, k1⟩ := inner.2 hp
        exact ⟨_, b2, (fit_turn hm (k _ (List.getElem_mem e2)) b).trans k1⟩
  cases hf : (List.range hs.length).all (fitAt hs) with
  | true =>
    obtain ⟨s2, k1, a, b, rfl⟩ := key.1 hf
    simp [runF, mSeq, mIf, mRet, mSkip, mVar, mC, mOp, mIsi, mNotV, mAndV, mOrV, mTest, mOr, mAnd, mNot, mCall0, lend_clean, back0, resD_clean, clean_non, clean_bl, clean_int, clean_str, clean_lst, clean_tup, clean_dct, clean_obj, cleanL_nil, cleanL_cons, mCons, mNil, ML.R.bind, ML.R.thenS, setS, lift2, cont_clean, cont_cell, cont_scr, cont_exn, contL, mCB, isSlot_clean, isSlot_cell, isSlot_exn, isSlot_slot, mAsg, gTp, gLs, gsCons, gsNil, gNm, mAug, tyD, kb_ii, kb_ib, kb_bi, kb_bb, kb_si, kb_ss, kb_tt, kb_ll, kb_tl, kb_sl, kb_dl, kb_il, kb_bl, mChain, mChain3, mSet, mSetOw, mRetN, mRaise, mDisp, noSlots, mDrop, mIter, mMeth, ofTy, mFor, forL, mPutF, mFld, putP, lookN, putN, flatB, flatD, max2D, min2D, mPart, mNoPart, mSl, orF, orC, gtD, ltD, leD, leI, geD, subI, addD_ii, modI, isN, isntN, mIfE, mNeg, mBreak, mCont, orE, boxed, ofStr_eq, mMake0, madeR, mOwn, methR, methC, backC, mCell, mSetKey, mSetIx, setL, mAugIx, mCall, mMake, madeC, mLc, mYes, wipeS, backS, backE, mMaxDf, intsD, mIsK, mFrz, frzS, size_le, size_lt, cleanL_append, mMut, appendU, cont_slotE, List.any, List.all, k1]
  | false =>
    obtain ⟨a, b, k1⟩ := key.2 hf
    simp [runF, mSeq, mIf, mRet, mSkip, mVar, mC, mOp, mIsi, mNotV, mAndV, mOrV, mTest, mOr, mAnd, mNot, mCall0, lend_clean, back0, resD_clean, clean_non, clean_bl, clean_int, clean_str, clean_lst, clean_tup, clean_dct, clean_obj, cleanL_nil, cleanL_cons, mCons, mNil, ML.R.bind, ML.R.thenS, setS, lift2, cont_clean, cont_cell, cont_scr, cont_exn, contL, mCB, isSlot_clean, isSlot_cell, isSlot_exn, isSlot_slot, mAsg, gTp, gLs, gsCons, gsNil, gNm, mAug, tyD, kb_ii, kb_ib, kb_bi, kb_bb, kb_si, kb_ss, kb_tt, kb_ll, kb_tl, kb_sl, kb_dl, kb_il, kb_bl, mChain, mChain3, mSet, mSetOw, mRetN, mRaise, mDisp, noSlots, mDrop, mIter, mMeth, ofTy, mFor, forL, mPutF, mFld, putP, lookN, putN, flatB, flatD, max2D, min2D, mPart, mNoPart, mSl, orF, orC, gtD, ltD, leD, leI, geD, subI, addD_ii, modI, isN, isntN, mIfE, mNeg, mBreak, mCont, orE, boxed, ofStr_eq, mMake0, madeR, mOwn, methR, methC, backC, mCell, mSetKey, mSetIx, setL, mAugIx, mCall, mMake, madeC, mLc, mYes, wipeS, backS, backE, mMaxDf, intsD, mIsK, mFrz, frzS, size_le, size_lt, cleanL_append, mMut, appendU, cont_slotE, List.any, List.all, k1]
/-! ### a work -/
abbrev wkN : List Str := ["name", "gap", "length", "due", "late", "sections"]
structure Wk where
  nm : Str
  gap : Int
  len : Int
  due : Int
  late : Int
  hs : List Ho
def wkD (w : Wk) : D := .obj 6 wkN [.str w.nm, .int w.gap, .int w.len, .int w.due, .int w.late, .lst (w.hs.map hoD)]
structure WkOk (w : Wk) : Prop where
  nm : m_is_name [.str w.nm] [] = .ok (.bl true) []
  gap : 1 ≤ w.gap
  len : 1 ≤ w.len
  due : 1 ≤ w.due
  dg : w.due ≤ w.gap
  late : 0 ≤ w.late
theorem p_Work {w : Wk} (k : WkOk w) (hf : m_holds_fit [.lst (w.hs.map hoD), .int w.len] [] = .ok (.bl true) []) :
    m_Work_new [.cell 0, .str w.nm, .int w.gap, .int w.len, .int w.due, .int w.late, .lst (w.hs.map hoD)] [.obj 6 [] []] = .ok .non [wkD w] := by
  have h1 := k.nm
  have h2 := k.gap
  have h3 := k.len
  have h4 := k.due
  have h5 : ¬ w.gap < w.due := by have := k.dg; omega
  have h6 := k.late
  unfold m_Work_new b_Work_new
  simp [runF, mSeq, mIf, mRet, mSkip, mVar, mC, mOp, mIsi, mNotV, mAndV, mOrV, mTest, mOr, mAnd, mNot, mCall0, lend_clean, back0, resD_clean, clean_non, clean_bl, clean_int, clean_str, clean_lst, clean_tup, clean_dct, clean_obj, cleanL_nil, cleanL_cons, mCons, mNil, ML.R.bind, ML.R.thenS, setS, lift2, cont_clean, cont_cell, cont_scr, cont_exn, contL, mCB, isSlot_clean, isSlot_cell, isSlot_exn, isSlot_slot, mAsg, gTp, gLs, gsCons, gsNil, gNm, mAug, tyD, kb_ii, kb_ib, kb_bi, kb_bb, kb_si, kb_ss, kb_tt, kb_ll, kb_tl, kb_sl, kb_dl, kb_il, kb_bl, mChain, mChain3, mSet, mSetOw, mRetN, mRaise, mDisp, noSlots, mDrop, mIter, mMeth, ofTy, mFor, forL, mPutF, mFld, putP, lookN, putN, flatB, flatD, max2D, min2D, mPart, mNoPart, mSl, orF, orC, gtD, ltD, leD, leI, geD, subI, addD_ii, modI, isN, isntN, mIfE, mNeg, mBreak, mCont, orE, boxed, ofStr_eq, mMake0, madeR, mOwn, methR, methC, backC, mCell, mSetKey, mSetIx, setL, mAugIx, mCall, mMake, madeC, mLc, mYes, wipeS, backS, backE, mMaxDf, intsD, mIsK, mFrz, frzS, size_le, size_lt, cleanL_append, mMut, appendU, cont_slotE, List.any, List.all, cleanL_ho, h1, h2, h3, h4, h5, h6, hf, p_from_on, listD, wkD]
/-- what is no list of holds that fit: BadWork -/
theorem p_Work_bad {w : Wk} {d : D} (k : WkOk w) (hd : clean d = true) (hn : isN d .non = some (.bl false)) (hf : m_holds_fit [d, .int w.len] [] = .ok (.bl false) []) :
    m_Work_new [.cell 0, .str w.nm, .int w.gap, .int w.len, .int w.due, .int w.late, d] [.obj 6 [] []] = .exc ⟨0, [], []⟩ [.obj 6 [] []] := by
  have h1 := k.nm
  have h2 := k.gap
  have h3 := k.len
  have h4 := k.due
  have h5 : ¬ w.gap < w.due := by have := k.dg; omega
  have h6 := k.late
  unfold m_Work_new b_Work_new
  cases d with
  | non => cases hn
  | cell n => simp [clean] at hd
  | slot n => simp [clean] at hd
  | scr n => simp [clean] at hd
  | exn _ _ _ _ _ => simp [clean] at hd
  | bl b => simp [runF, mSeq, mIf, mRet, mSkip, mVar, mC, mOp, mIsi, mNotV, mAndV, mOrV, mTest, mOr, mAnd, mNot, mCall0, lend_clean, back0, resD_clean, clean_non, clean_bl, clean_int, clean_str, clean_lst, clean_tup, clean_dct, clean_obj, cleanL_nil, cleanL_cons, mCons, mNil, ML.R.bind, ML.R.thenS, setS, lift2, cont_clean, cont_cell, cont_scr, cont_exn, contL, mCB, isSlot_clean, isSlot_cell, isSlot_exn, isSlot_slot, mAsg, gTp, gLs, gsCons, gsNil, gNm, mAug, tyD, kb_ii, kb_ib, kb_bi, kb_bb, kb_si, kb_ss, kb_tt, kb_ll, kb_tl, kb_sl, kb_dl, kb_il, kb_bl, mChain, mChain3, mSet, mSetOw, mRetN, mRaise, mDisp, noSlots, mDrop, mIter, mMeth, ofTy, mFor, forL, mPutF, mFld, putP, lookN, putN, flatB, flatD, max2D, min2D, mPart, mNoPart, mSl, orF, orC, gtD, ltD, leD, leI, geD, subI, addD_ii, modI, isN, isntN, mIfE, mNeg, mBreak, mCont, orE, boxed, ofStr_eq, mMake0, madeR, mOwn, methR, methC, backC, mCell, mSetKey, mSetIx, setL, mAugIx, mCall, mMake, madeC, mLc, mYes, wipeS, backS, backE, mMaxDf, intsD, mIsK, mFrz, frzS, size_le, size_lt, cleanL_append, mMut, appendU, cont_slotE, List.any, List.all, h1, h2, h3, h4, h5, h6, hf, p_from_on]
  | int b => simp [runF, mSeq, mIf, mRet, mSkip, mVar, mC, mOp, mIsi, mNotV, mAndV, mOrV, mTest, mOr, mAnd, mNot, mCall0, lend_clean, back0, resD_clean, clean_non, clean_bl, clean_int, clean_str, clean_lst, clean_tup, clean_dct, clean_obj, cleanL_nil, cleanL_cons, mCons, mNil, ML.R.bind, ML.R.thenS, setS, lift2, cont_clean, cont_cell, cont_scr, cont_exn, contL, mCB, isSlot_clean, isSlot_cell, isSlot_exn, isSlot_slot, mAsg, gTp, gLs, gsCons, gsNil, gNm, mAug, tyD, kb_ii, kb_ib, kb_bi, kb_bb, kb_si, kb_ss, kb_tt, kb_ll, kb_tl, kb_sl, kb_dl, kb_il, kb_bl, mChain, mChain3, mSet, mSetOw, mRetN, mRaise, mDisp, noSlots, mDrop, mIter, mMeth, ofTy, mFor, forL, mPutF, mFld, putP, lookN, putN, flatB, flatD, max2D, min2D, mPart, mNoPart, mSl, orF, orC, gtD, ltD, leD, leI, geD, subI, addD_ii, modI, isN, isntN, mIfE, mNeg, mBreak, mCont, orE, boxed, ofStr_eq, mMake0, madeR, mOwn, methR, methC, backC, mCell, mSetKey, mSetIx, setL, mAugIx, mCall, mMake, madeC, mLc, mYes, wipeS, backS, backE, mMaxDf, intsD, mIsK, mFrz, frzS, size_le, size_lt, cleanL_append, mMut, appendU, cont_slotE, List.any, List.all, h1, h2, h3, h4, h5, h6, hf, p_from_on]
  | str b => simp [runF, mSeq, mIf, mRet, mSkip, mVar, mC, mOp, mIsi, mNotV, mAndV, mOrV, mTest, mOr, mAnd, mNot, mCall0, lend_clean, back0, resD_clean, clean_non, clean_bl, clean_int, clean_str, clean_lst, clean_tup, clean_dct, clean_obj, cleanL_nil, cleanL_cons, mCons, mNil, ML.R.bind, ML.R.thenS, setS, lift2, cont_clean, cont_cell, cont_scr, cont_exn, contL, mCB, isSlot_clean, isSlot_cell, isSlot_exn, isSlot_slot, mAsg, gTp, gLs, gsCons, gsNil, gNm, mAug, tyD, kb_ii, kb_ib, kb_bi, kb_bb, kb_si, kb_ss, kb_tt, kb_ll, kb_tl, kb_sl, kb_dl, kb_il, kb_bl, mChain, mChain3, mSet, mSetOw, mRetN, mRaise, mDisp, noSlots, mDrop, mIter, mMeth, ofTy, mFor, forL, mPutF, mFld, putP, lookN, putN, flatB, flatD, max2D, min2D, mPart, mNoPart, mSl, orF, orC, gtD, ltD, leD, leI, geD, subI, addD_ii, modI, isN, isntN, mIfE, mNeg, mBreak, mCont, orE, boxed, ofStr_eq, mMake0, madeR, mOwn, methR, methC, backC, mCell, mSetKey, mSetIx, setL, mAugIx, mCall, mMake, madeC, mLc, mYes, wipeS, backS, backE, mMaxDf, intsD, mIsK, mFrz, frzS, size_le, size_lt, cleanL_append, mMut, appendU, cont_slotE, List.any, List.all, h1, h2, h3, h4, h5, h6, hf, p_from_on]
  | lst ds => rw [clean_lst] at hd; simp [runF, mSeq, mIf, mRet, mSkip, mVar, mC, mOp, mIsi, mNotV, mAndV, mOrV, mTest, mOr, mAnd, mNot, mCall0, lend_clean, back0, resD_clean, clean_non, clean_bl, clean_int, clean_str, clean_lst, clean_tup, clean_dct, clean_obj, cleanL_nil, cleanL_cons, mCons, mNil, ML.R.bind, ML.R.thenS, setS, lift2, cont_clean, cont_cell, cont_scr, cont_exn, contL, mCB, isSlot_clean, isSlot_cell, isSlot_exn, isSlot_slot, mAsg, gTp, gLs, gsCons, gsNil, gNm, mAug, tyD, kb_ii, kb_ib, kb_bi, kb_bb, kb_si, kb_ss, kb_tt, kb_ll, kb_tl, kb_sl, kb_dl, kb_il, kb_bl, mChain, mChain3, mSet, mSetOw, mRetN, mRaise, mDisp, noSlots, mDrop, mIter, mMeth, ofTy, mFor, forL, mPutF, mFld, putP, lookN, putN, flatB, flatD, max2D, min2D, mPart, mNoPart, mSl, orF, orC, gtD, ltD, leD, leI, geD, subI, addD_ii, modI, isN, isntN, mIfE, mNeg, mBreak, mCont, orE, boxed, ofStr_eq, mMake0, madeR, mOwn, methR, methC, backC, mCell, mSetKey, mSetIx, setL, mAugIx, mCall, mMake, madeC, mLc, mYes, wipeS, backS, backE, mMaxDf, intsD, mIsK, mFrz, frzS, size_le, size_lt, cleanL_append, mMut, appendU, cont_slotE, List.any, List.all, h1, h2, h3, h4, h5, h6, hf, p_from_on, hd]
  | tup ds => rw [clean_tup] at hd; simp [runF, mSeq, mIf, mRet, mSkip, mVar, mC, mOp, mIsi, mNotV, mAndV, mOrV, mTest, mOr, mAnd, mNot, mCall0, lend_clean, back0, resD_clean, clean_non, clean_bl, clean_int, clean_str, clean_lst, clean_tup, clean_dct, clean_obj, cleanL_nil, cleanL_cons, mCons, mNil, ML.R.bind, ML.R.thenS, setS, lift2, cont_clean, cont_cell, cont_scr, cont_exn, contL, mCB, isSlot_clean, isSlot_cell, isSlot_exn, isSlot_slot, mAsg, gTp, gLs, gsCons, gsNil, gNm, mAug, tyD, kb_ii, kb_ib, kb_bi, kb_bb, kb_si, kb_ss, kb_tt, kb_ll, kb_tl, kb_sl, kb_dl, kb_il, kb_bl, mChain, mChain3, mSet, mSetOw, mRetN, mRaise, mDisp, noSlots, mDrop, mIter, mMeth, ofTy, mFor, forL, mPutF, mFld, putP, lookN, putN, flatB, flatD, max2D, min2D, mPart, mNoPart, mSl, orF, orC, gtD, ltD, leD, leI, geD, subI, addD_ii, modI, isN, isntN, mIfE, mNeg, mBreak, mCont, orE, boxed, ofStr_eq, mMake0, madeR, mOwn, methR, methC, backC, mCell, mSetKey, mSetIx, setL, mAugIx, mCall, mMake, madeC, mLc, mYes, wipeS, backS, backE, mMaxDf, intsD, mIsK, mFrz, frzS, size_le, size_lt, cleanL_append, mMut, appendU, cont_slotE, List.any, List.all, h1, h2, h3, h4, h5, h6, hf, p_from_on, hd]
  | dct ks ds => rw [clean_dct] at hd; simp [runF, mSeq, mIf, mRet, mSkip, mVar, mC, mOp, mIsi, mNotV, mAndV, mOrV, mTest, mOr, mAnd, mNot, mCall0, lend_clean, back0, resD_clean, clean_non, clean_bl, clean_int, clean_str, clean_lst, clean_tup, clean_dct, clean_obj, cleanL_nil, cleanL_cons, mCons, mNil, ML.R.bind, ML.R.thenS, setS, lift2, cont_clean, cont_cell, cont_scr, cont_exn, contL, mCB, isSlot_clean, isSlot_cell, isSlot_exn, isSlot_slot, mAsg, gTp, gLs, gsCons, gsNil, gNm, mAug, tyD, kb_ii, kb_ib, kb_bi, kb_bb, kb_si, kb_ss, kb_tt, kb_ll, kb_tl, kb_sl, kb_dl, kb_il, kb_bl, mChain, mChain3, mSet, mSetOw, mRetN, mRaise, mDisp, noSlots, mDrop, mIter, mMeth, ofTy, mFor, forL, mPutF, mFld, putP, lookN, putN, flatB, flatD, max2D, min2D, mPart, mNoPart, mSl, orF, orC, gtD, ltD, leD, leI, geD, subI, addD_ii, modI, isN, isntN, mIfE, mNeg, mBreak, mCont, orE, boxed, ofStr_eq, mMake0, madeR, mOwn, methR, methC, backC, mCell, mSetKey, mSetIx, setL, mAugIx, mCall, mMake, madeC, mLc, mYes, wipeS, backS, backE, mMaxDf, intsD, mIsK, mFrz, frzS, size_le, size_lt, cleanL_append, mMut, appendU, cont_slotE, List.any, List.all, h1, h2, h3, h4, h5, h6, hf, p_from_on, hd]
  | obj c ks ds => rw [clean_obj] at hd; simp [runF, mSeq, mIf, mRet, mSkip, mVar, mC, mOp, mIsi, mNotV, mAndV, mOrV, mTest, mOr, mAnd, mNot, mCall0, lend_clean, back0, resD_clean, clean_non, clean_bl, clean_int, clean_str, clean_lst, clean_tup, clean_dct, clean_obj, cleanL_nil, cleanL_cons, mCons, mNil, ML.R.bind, ML.R.thenS, setS, lift2, cont_clean, cont_cell, cont_scr, cont_exn, contL, mCB, isSlot_clean, isSlot_cell, isSlot_exn, isSlot_slot, mAsg, gTp, gLs, gsCons, gsNil, gNm, mAug, tyD, kb_ii, kb_ib, kb_bi, kb_bb, kb_si, kb_ss, kb_tt, kb_ll, kb_tl, kb_sl, kb_dl, kb_il, kb_bl, mChain, mChain3, mSet, mSetOw, mRetN, mRaise, mDisp, noSlots, mDrop, mIter, mMeth, ofTy, mFor, forL, mPutF, mFld, putP, lookN, putN, flatB, flatD, max2D, min2D, mPart, mNoPart, mSl, orF, orC, gtD, ltD, leD, leI, geD, subI, addD_ii, modI, isN, isntN, mIfE, mNeg, mBreak, mCont, orE, boxed, ofStr_eq, mMake0, madeR, mOwn, methR, methC, backC, mCell, mSetKey, mSetIx, setL, mAugIx, mCall, mMake, madeC, mLc, mYes, wipeS, backS, backE, mMaxDf, intsD, mIsK, mFrz, frzS, size_le, size_lt, cleanL_append, mMut, appendU, cont_slotE, List.any, List.all, h1, h2, h3, h4, h5, h6, hf, p_from_on, hd]
theorem p_held (w : Wk) : m_Work_held [wkD w] [] = .ok (.lst (w.hs.map hoD)) [] := by
  unfold m_Work_held b_Work_held wkD
  simp [runF, mSeq, mIf, mRet, mSkip, mVar, mC, mOp, mIsi, mNotV, mAndV, mOrV, mTest, mOr, mAnd, mNot, mCall0, lend_clean, back0, resD_clean, clean_non, clean_bl, clean_int, clean_str, clean_lst, clean_tup, clean_dct, clean_obj, cleanL_nil, cleanL_cons, mCons, mNil, ML.R.bind, ML.R.thenS, setS, lift2, cont_clean, cont_cell, cont_scr, cont_exn, contL, mCB, isSlot_clean, isSlot_cell, isSlot_exn, isSlot_slot, mAsg, gTp, gLs, gsCons, gsNil, gNm, mAug, tyD, kb_ii, kb_ib, kb_bi, kb_bb, kb_si, kb_ss, kb_tt, kb_ll, kb_tl, kb_sl, kb_dl, kb_il, kb_bl, mChain, mChain3, mSet, mSetOw, mRetN, mRaise, mDisp, noSlots, mDrop, mIter, mMeth, ofTy, mFor, forL, mPutF, mFld, putP, lookN, putN, flatB, flatD, max2D, min2D, mPart, mNoPart, mSl, orF, orC, gtD, ltD, leD, leI, geD, subI, addD_ii, modI, isN, isntN, mIfE, mNeg, mBreak, mCont, orE, boxed, ofStr_eq, mMake0, madeR, mOwn, methR, methC, backC, mCell, mSetKey, mSetIx, setL, mAugIx, mCall, mMake, madeC, mLc, mYes, wipeS, backS, backE, mMaxDf, intsD, mIsK, mFrz, frzS, size_le, size_lt, cleanL_append, mMut, appendU, cont_slotE, List.any, List.all, cleanL_ho, listD]
/-! ### duties -/
structure WkGood (w : Wk) : Prop extends WkOk w where
  ho : ∀ h ∈ w.hs, HoldOk w.len h
  few : w.hs.length ≤ 6
  fit : (List.range w.hs.length).all (fitAt w.hs) = true
theorem clean_wk (w : Wk) : clean (wkD w) = true := by
  unfold wkD
  simp [clean_obj, cleanL_cons, cleanL_nil, clean_str, clean_int, clean_lst, cleanL_ho]
theorem cleanL_wk : ∀ ws : List Wk, cleanL (ws.map wkD) = true
  | [] => Eq.trans rfl rfl
  | w :: ws => by rw [List.map_cons, cleanL_cons, clean_wk, cleanL_wk ws] <;> rfl
theorem WkGood.new {w : Wk} (k : WkGood w) : m_Work_new [.cell 0, .str w.nm, .int w.gap, .int w.len, .int w.due, .int w.late, .lst (w.hs.map hoD)] [.obj 6 [] []] = .ok .non [wkD w] := by
  refine p_Work k.toWkOk ?_
  rw [p_holds_fit k.ho k.few, k.fit]
theorem resO_wk (w : Wk) : resO [wkD w] = some (wkD w) := by
  unfold wkD
  simp [resO, resL, resD_clean, clean_str, clean_int, clean_lst, cleanL_ho]
theorem p_made_again {w : Wk} (k : WkGood w) : m_made_again [wkD w] [] = .ok (wkD w) [] := by
  have h1 := k.new
  have h2 := p_held w
  have h3 := resO_wk w
  unfold m_made_again b_made_again
  unfold wkD at h1 h2 h3 ⊢
  simp [runF, mSeq, mIf, mRet, mSkip, mVar, mC, mOp, mIsi, mNotV, mAndV, mOrV, mTest, mOr, mAnd, mNot, mCall0, lend_clean, back0, resD_clean, clean_non, clean_bl, clean_int, clean_str, clean_lst, clean_tup, clean_dct, clean_obj, cleanL_nil, cleanL_cons, mCons, mNil, ML.R.bind, ML.R.thenS, setS, lift2, cont_clean, cont_cell, cont_scr, cont_exn, contL, mCB, isSlot_clean, isSlot_cell, isSlot_exn, isSlot_slot, mAsg, gTp, gLs, gsCons, gsNil, gNm, mAug, tyD, kb_ii, kb_ib, kb_bi, kb_bb, kb_si, kb_ss, kb_tt, kb_ll, kb_tl, kb_sl, kb_dl, kb_il, kb_bl, mChain, mChain3, mSet, mSetOw, mRetN, mRaise, mDisp, noSlots, mDrop, mIter, mMeth, ofTy, mFor, forL, mPutF, mFld, putP, lookN, putN, flatB, flatD, max2D, min2D, mPart, mNoPart, mSl, orF, orC, gtD, ltD, leD, leI, geD, subI, addD_ii, modI, isN, isntN, mIfE, mNeg, mBreak, mCont, orE, boxed, ofStr_eq, mMake0, madeR, mOwn, methR, methC, backC, mCell, mSetKey, mSetIx, setL, mAugIx, mCall, mMake, madeC, mLc, mYes, wipeS, backS, backE, mMaxDf, intsD, mIsK, mFrz, frzS, size_le, size_lt, cleanL_append, mMut, appendU, cont_slotE, List.any, List.all, cleanL_ho, h1, h2, h3]
def ceilI (a b : Int) : Int := if 0 < a % b then a / b + 1 else a / b
theorem p_rounds_up {a b : Int} (hb : 0 < b) (hb2 : b < 1073741824 ∨ Builtin.divisionGoesByPylong a b = false) (cs : List D) : m_rounds_up [.int a, .int b] cs = .ok (.int (ceilI a b)) cs := by
  unfold m_rounds_up b_rounds_up ceilI
  by_cases h : 0 < a % b
  · simp [runF, mSeq, mIf, mRet, mSkip, mVar, mC, mOp, mIsi, mNotV, mAndV, mOrV, mTest, mOr, mAnd, mNot, mCall0, lend_clean, back0, resD_clean, clean_non, clean_bl, clean_int, clean_str, clean_lst, clean_tup, clean_dct, clean_obj, cleanL_nil, cleanL_cons, mCons, mNil, ML.R.bind, ML.R.thenS, setS, lift2, cont_clean, cont_cell, cont_scr, cont_exn, contL, mCB, isSlot_clean, isSlot_cell, isSlot_exn, isSlot_slot, mAsg, gTp, gLs, gsCons, gsNil, gNm, mAug, tyD, kb_ii, kb_ib, kb_bi, kb_bb, kb_si, kb_ss, kb_tt, kb_ll, kb_tl, kb_sl, kb_dl, kb_il, kb_bl, mChain, mChain3, mSet, mSetOw, mRetN, mRaise, mDisp, noSlots, mDrop, mIter, mMeth, ofTy, mFor, forL, mPutF, mFld, putP, lookN, putN, flatB, flatD, max2D, min2D, mPart, mNoPart, mSl, orF, orC, gtD, ltD, leD, leI, geD, subI, addD_ii, modI, isN, isntN, mIfE, mNeg, mBreak, mCont, orE, boxed, ofStr_eq, mMake0, madeR, mOwn, methR, methC, backC, mCell, mSetKey, mSetIx, setL, mAugIx, mCall, mMake, madeC, mLc, mYes, wipeS, backS, backE, mMaxDf, intsD, mIsK, mFrz, frzS, size_le, size_lt, cleanL_append, mMut, appendU, cont_slotE, List.any, List.all, divmodD, hb, hb2, h]
  · simp [runF, mSeq, mIf, mRet, mSkip, mVar, mC, mOp, mIsi, mNotV, mAndV, mOrV, mTest, mOr, mAnd, mNot, mCall0, lend_clean, back0, resD_clean, clean_non, clean_bl, clean_int, clean_str, clean_lst, clean_tup, clean_dct, clean_obj, cleanL_nil, cleanL_cons, mCons, mNil, ML.R.bind, ML.R.thenS, setS, lift2, cont_clean, cont_cell, cont_scr, cont_exn, contL, mCB, isSlot_clean, isSlot_cell, isSlot_exn, isSlot_slot, mAsg, gTp, gLs, gsCons, gsNil, gNm, mAug, tyD, kb_ii, kb_ib, kb_bi, kb_bb, kb_si, kb_ss, kb_tt, kb_ll, kb_tl, kb_sl, kb_dl, kb_il, kb_bl, mChain, mChain3, mSet, mSetOw, mRetN, mRaise, mDisp, noSlots, mDrop, mIter, mMeth, ofTy, mFor, forL, mPutF, mFld, putP, lookN, putN, flatB, flatD, max2D, min2D, mPart, mNoPart, mSl, orF, orC, gtD, ltD, leD, leI, geD, subI, addD_ii, modI, isN, isntN, mIfE, mNeg, mBreak, mCont, orE, boxed, ofStr_eq, mMake0, madeR, mOwn, methR, methC, backC, mCell, mSetKey, mSetIx, setL, mAugIx, mCall, mMake, madeC, mLc, mYes, wipeS, backS, backE, mMaxDf, intsD, mIsK, mFrz, frzS, size_le, size_lt, cleanL_append, mMut, appendU, cont_slotE, List.any, List.all, divmodD, hb, hb2, h]
def greD (ws : List Wk) : Int := match ws with
  | [] => 0
  | w :: r => (r.map Wk.due).foldl max w.due
def sumC (g : Int) : List Wk → Int
  | [] => 0
  | w :: r => ceilI (g + w.late) w.gap + sumC g r
theorem sumC_snoc (g : Int) (w : Wk) : ∀ l : List Wk, sumC g (l ++ [w]) = sumC g l + ceilI (g + w.late) w.gap
  | [] => by simp [sumC]
  | x :: l => by simp [sumC, sumC_snoc g w l, Int.add_assoc]
theorem cleanL_ints {α : Type} (f : α → Int) : ∀ xs : List α, cleanL (xs.map fun x => D.int (f x)) = true
  | [] => Eq.trans rfl rfl
  | x :: xs => by rw [List.map_cons, cleanL_cons, clean_int, cleanL_ints f xs] <;> rfl
theorem intsD_map {α : Type} (f : α → Int) : ∀ xs : List α, intsD (xs.map fun x => D.int (f x)) = some (xs.map f)
  | [] => rfl
  | x :: xs => by simp [intsD, intsD_map f xs]
def SmallGap (g : Int) (w : Wk) : Prop := 0 < w.gap ∧ (w.gap < 1073741824 ∨ Builtin.divisionGoesByPylong (g + w.late) w.gap = false)
theorem p_crowd {ws : List Wk} {x : D} {cs : List D} (h0 : cs[0]? = some (.obj 7 ["numbers", "works"] [x, .lst (ws.map wkD)])) (hl : ws.length ≤ 1000) (hg : ∀ w ∈ ws, SmallGap (greD ws) w) :
    m_Duty_crowd [.cell 0] cs = .ok (.int (sumC (greD ws) ws)) cs := by
  have hlc := lcL_all (g := gNm 3) (mt := mYes) (me := mFld [6] "due" (mVar 3)) (vs := [3]) wkD (fun w => D.int w.due) ⟨[.fz (.cell 0), .no, .no, .no], cs⟩ ws [] (by have := sizeLine_ge; simp; omega) fun w hw => by
    refine ⟨⟨[.fz (.cell 0), .no, .no, .fz (wkD w)], cs⟩, ⟨[.fz (.cell 0), .no, .no, .fz (wkD w)], cs⟩, ⟨[.fz (.cell 0), .no, .no, .fz (wkD w)], cs⟩, rfl, rfl, ?_, rfl, rfl⟩
    have hc := clean_wk w
    unfold wkD at hc ⊢
    simp [runF, mSeq, mIf, mRet, mSkip, mVar, mC, mOp, mIsi, mNotV, mAndV, mOrV, mTest, mOr, mAnd, mNot, mCall0, lend_clean, back0, resD_clean, clean_non, clean_bl, clean_int, clean_str, clean_lst, clean_tup, clean_dct, clean_obj, cleanL_nil, cleanL_cons, mCons, mNil, ML.R.bind, ML.R.thenS, setS, lift2, cont_clean, cont_cell, cont_scr, cont_exn, contL, mCB, isSlot_clean, isSlot_cell, isSlot_exn, isSlot_slot, mAsg, gTp, gLs, gsCons, gsNil, gNm, mAug, tyD, kb_ii, kb_ib, kb_bi, kb_bb, kb_si, kb_ss, kb_tt, kb_ll, kb_tl, kb_sl, kb_dl, kb_il, kb_bl, mChain, mChain3, mSet, mSetOw, mRetN, mRaise, mDisp, noSlots, mDrop, mIter, mMeth, ofTy, mFor, forL, mPutF, mFld, putP, lookN, putN, flatB, flatD, max2D, min2D, mPart, mNoPart, mSl, orF, orC, gtD, ltD, leD, leI, geD, subI, addD_ii, modI, isN, isntN, mIfE, mNeg, mBreak, mCont, orE, boxed, ofStr_eq, mMake0, madeR, mOwn, methR, methC, backC, mCell, mSetKey, mSetIx, setL, mAugIx, mCall, mMake, madeC, mLc, mYes, wipeS, backS, backE, mMaxDf, intsD, mIsK, mFrz, frzS, size_le, size_lt, cleanL_append, mMut, appendU, cont_slotE, List.any, List.all, cleanL_ho]
  have hmx : (match intsD (ws.map fun w => D.int w.due) with
      | some [] => (.ok (.int 0) ⟨[.fz (.cell 0), .no, .no, .no], cs⟩ : R D)
      | some (n :: ns) => .ok (.int (ns.foldl max n)) ⟨[.fz (.cell 0), .no, .no, .no], cs⟩
      | none => .err) = .ok (.int (greD ws)) ⟨[.fz (.cell 0), .no, .no, .no], cs⟩ := by
    rw [intsD_map Wk.due]
    cases ws <;> rfl
  obtain ⟨s2, e2, b, rfl⟩ := forL_inv1 (g := gNm 3) (b := b_Duty_crowd_1) wkD (fun l s => ∃ b, s = ⟨[.fz (.cell 0), .fz (.int (greD ws)), .fz (.int (sumC (greD ws) l)), b], cs⟩) ws ⟨[.fz (.cell 0), .fz (.int (greD ws)), .fz (.int 0), .no], cs⟩ ⟨_, rfl⟩ fun w l r s e ⟨b, es⟩ => by
    subst es
    have hw : w ∈ ws := by rw [e]; simp
    obtain ⟨h1, h2⟩ := hg w hw
    have hr := p_rounds_up (a := greD ws + w.late) h1 h2 []
    refine ⟨⟨[.fz (.cell 0), .fz (.int (greD ws)), .fz (.int (sumC (greD ws) l)), .fz (wkD w)], cs⟩, rfl, ⟨[.fz (.cell 0), .fz (.int (greD ws)), .fz (.int (sumC (greD ws) (l ++ [w]))), .fz (wkD w)], cs⟩, .inl ?_, _, rfl⟩
    rw [sumC_snoc]
    unfold b_Duty_crowd_1
    have hc := clean_wk w
    unfold wkD at hc ⊢
    simp [runF, mSeq, mIf, mRet, mSkip, mVar, mC, mOp, mIsi, mNotV, mAndV, mOrV, mTest, mOr, mAnd, mNot, mCall0, lend_clean, back0, resD_clean, clean_non, clean_bl, clean_int, clean_str, clean_lst, clean_tup, clean_dct, clean_obj, cleanL_nil, cleanL_cons, mCons, mNil, ML.R.bind, ML.R.thenS, setS, lift2, cont_clean, cont_cell, cont_scr, cont_exn, contL, mCB, isSlot_clean, isSlot_cell, isSlot_exn, isSlot_slot, mAsg, gTp, gLs, gsCons, gsNil, gNm, mAug, tyD, kb_ii, kb_ib, kb_bi, kb_bb, kb_si, kb_ss, kb_tt, kb_ll, kb_tl, kb_sl, kb_dl, kb_il, kb_bl, mChain, mChain3, mSet, mSetOw, mRetN, mRaise, mDisp, noSlots, mDrop, mIter, mMeth, ofTy, mFor, forL, mPutF, mFld, putP, lookN, putN, flatB, flatD, max2D, min2D, mPart, mNoPart, mSl, orF, orC, gtD, ltD, leD, leI, geD, subI, addD_ii, modI, isN, isntN, mIfE, mNeg, mBreak, mCont, orE, boxed, ofStr_eq, mMake0, madeR, mOwn, methR, methC, backC, mCell, mSetKey, mSetIx, setL, mAugIx, mCall, mMake, madeC, mLc, mYes, wipeS, backS, backE, mMaxDf, intsD, mIsK, mFrz, frzS, size_le, size_lt, cleanL_append, mMut, appendU, cont_slotE, List.any, List.all, cleanL_ho, hr]
  have hci := cleanL_ints Wk.due ws
  have hin := intsD_map Wk.due ws
  rw [List.nil_append] at hlc
  clear hmx
  unfold m_Duty_crowd b_Duty_crowd
  cases hd : ws.map Wk.due with
  | nil =>
    have hgr : greD ws = 0 := by
      cases ws with
      | nil => rfl
      | cons w r => cases hd
    rw [hd] at hin
    rw [hgr] at e2 ⊢
    simp [runF, mSeq, mIf, mRet, mSkip, mVar, mC, mOp, mIsi, mNotV, mAndV, mOrV, mTest, mOr, mAnd, mNot, mCall0, lend_clean, back0, resD_clean, clean_non, clean_bl, clean_int, clean_str, clean_lst, clean_tup, clean_dct, clean_obj, cleanL_nil, cleanL_cons, mCons, mNil, ML.R.bind, ML.R.thenS, setS, lift2, cont_clean, cont_cell, cont_scr, cont_exn, contL, mCB, isSlot_clean, isSlot_cell, isSlot_exn, isSlot_slot, mAsg, gTp, gLs, gsCons, gsNil, gNm, mAug, tyD, kb_ii, kb_ib, kb_bi, kb_bb, kb_si, kb_ss, kb_tt, kb_ll, kb_tl, kb_sl, kb_dl, kb_il, kb_bl, mChain, mChain3, mSet, mSetOw, mRetN, mRaise, mDisp, noSlots, mDrop, mIter, mMeth, ofTy, mFor, forL, mPutF, mFld, putP, lookN, putN, flatB, flatD, max2D, min2D, mPart, mNoPart, mSl, orF, orC, gtD, ltD, leD, leI, geD, subI, addD_ii, modI, isN, isntN, mIfE, mNeg, mBreak, mCont, orE, boxed, ofStr_eq, mMake0, madeR, mOwn, methR, methC, backC, mCell, mSetKey, mSetIx, setL, mAugIx, mCall, mMake, madeC, mLc, mYes, wipeS, backS, backE, mMaxDf, intsD, mIsK, mFrz, frzS, size_le, size_lt, cleanL_append, mMut, appendU, cont_slotE, List.any, List.all, h0, cleanL_wk, hlc, hci, hin, e2]
  | cons n ns =>
    have hgr : greD ws = ns.foldl max n := by
      cases ws with
      | nil => cases hd
      | cons w r =>
        simp only [List.map_cons, List.cons.injEq] at hd
        obtain ⟨rfl, rfl⟩ := hd
        rfl
    rw [hd] at hin
    rw [hgr] at e2 ⊢
    simp [runF, mSeq, mIf, mRet, mSkip, mVar, mC, mOp, mIsi, mNotV, mAndV, mOrV, mTest, mOr, mAnd, mNot, mCall0, lend_clean, back0, resD_clean, clean_non, clean_bl, clean_int, clean_str, clean_lst, clean_tup, clean_dct, clean_obj, cleanL_nil, cleanL_cons, mCons, mNil, ML.R.bind, ML.R.thenS, setS, lift2, cont_clean, cont_cell, cont_scr, cont_exn, contL, mCB, isSlot_clean, isSlot_cell, isSlot_exn, isSlot_slot, mAsg, gTp, gLs, gsCons, gsNil, gNm, mAug, tyD, kb_ii, kb_ib, kb_bi, kb_bb, kb_si, kb_ss, kb_tt, kb_ll, kb_tl, kb_sl, kb_dl, kb_il, kb_bl, mChain, mChain3, mSet, mSetOw, mRetN, mRaise, mDisp, noSlots, mDrop, mIter, mMeth, ofTy, mFor, forL, mPutF, mFld, putP, lookN, putN, flatB, flatD, max2D, min2D, mPart, mNoPart, mSl, orF, orC, gtD, ltD, leD, leI, geD, subI, addD_ii, modI, isN, isntN, mIfE, mNeg, mBreak, mCont, orE, boxed, ofStr_eq, mMake0, madeR, mOwn, methR, methC, backC, mCell, mSetKey, mSetIx, setL, mAugIx, mCall, mMake, madeC, mLc, mYes, wipeS, backS, backE, mMaxDf, intsD, mIsK, mFrz, frzS, size_le, size_lt, cleanL_append, mMut, appendU, cont_slotE, List.any, List.all, h0, cleanL_wk, hlc, hci, hin, e2]
def numD (ws : List Wk) : D := .dct (ws.map fun w => Sum.inr w.nm) ((List.range ws.length).map fun k => D.int (k : Nat))
def dtD (ws : List Wk) : D := .obj 7 ["numbers", "works"] [numD ws, .lst (ws.map wkD)]
structure DtOk (ws : List Wk) : Prop where
  good : ∀ w ∈ ws, WkGood w
  gap : ∀ w ∈ ws, SmallGap (greD ws) w
  nd : (ws.map Wk.nm).Nodup
  few : ws.length ≤ 12
  crowd : sumC (greD ws) ws ≤ 80
theorem nd_keys {ws : List Wk} (h : (ws.map Wk.nm).Nodup) : (ws.map fun w => (Sum.inr w.nm : L2.Key)).Nodup := by
  have e : (ws.map fun w => (Sum.inr w.nm : L2.Key)) = (ws.map Wk.nm).map Sum.inr := by simp
  rw [e]
  exact List.Pairwise.map _ (fun a b hab z => hab (Sum.inr.inj z)) h
theorem numD_snoc (l : List Wk) (w : Wk) : numD (l ++ [w]) = .dct ((l.map fun w => Sum.inr w.nm) ++ [Sum.inr w.nm]) (((List.range l.length).map fun k => D.int (k : Nat)) ++ [D.int (l.length : Nat)]) := by
  unfold numD
  simp [List.range_succ]
theorem dty_turn {ws : List Wk} {x : Nat} {w : Wk} (hx : ws[x]? = some w) (hn : w.nm ∉ (ws.take x).map Wk.nm) (hd : (ws.map Wk.nm).Nodup) (hf : ws.length ≤ 12) (a : Sl) :
    b_Duty_new_1 ⟨[.fz (.cell 0), .fz (.lst (ws.map wkD)), .fz (.int (x : Nat)), a], [.obj 7 ["numbers"] [.cell 1], numD (ws.take x)]⟩ = .nx ⟨[.fz (.cell 0), .fz (.lst (ws.map wkD)), .fz (.int (x : Nat)), a], [.obj 7 ["numbers"] [.cell 1], numD (ws.take (x + 1))]⟩ := by
  have hlt := (List.getElem?_eq_some_iff.mp hx).1
  have hm := ixL (ds := ws.map wkD) (k := x) (d := wkD w) (by rw [List.getElem?_map, hx]; rfl)
  have hk : (Sum.inr w.nm : L2.Key) ∉ (ws.take x).map fun w => (Sum.inr w.nm : L2.Key) := fun z => by
    obtain ⟨v, h1, h2⟩ := List.mem_map.mp z
    exact hn (List.mem_map.mpr ⟨v, h1, Sum.inr.inj h2⟩)
  have hi := inD_dct (ds := (List.range (ws.take x).length).map fun k => D.int (k : Nat)) hk
  have hs := setD_new (e := .int (x : Nat)) (ds := (List.range (ws.take x).length).map fun k => D.int (k : Nat)) hk (by simp) (nd_keys (by rw [List.map_take]; exact hd.sublist (List.take_sublist _ _))) (by simp; omega)
  have ht : ws.take (x + 1) = ws.take x ++ [w] := by
    rw [List.take_add_one, hx]
    rfl
  have hl : (ws.take x).length = x := by simp; omega
  rw [ht, numD_snoc, hl]
  unfold b_Duty_new_1 numD
  have hc := clean_wk w
  unfold wkD at hc hm ⊢
  rw [hl] at hi hs ⊢
  have hcl := cleanL_wk ws
  unfold wkD at hcl
  simp only [List.map_take] at hi hs ⊢
  simp [runF, mSeq, mIf, mRet, mSkip, mVar, mC, mOp, mIsi, mNotV, mAndV, mOrV, mTest, mOr, mAnd, mNot, mCall0, lend_clean, back0, resD_clean, clean_non, clean_bl, clean_int, clean_str, clean_lst, clean_tup, clean_dct, clean_obj, cleanL_nil, cleanL_cons, mCons, mNil, ML.R.bind, ML.R.thenS, setS, lift2, cont_clean, cont_cell, cont_scr, cont_exn, contL, mCB, isSlot_clean, isSlot_cell, isSlot_exn, isSlot_slot, mAsg, gTp, gLs, gsCons, gsNil, gNm, mAug, tyD, kb_ii, kb_ib, kb_bi, kb_bb, kb_si, kb_ss, kb_tt, kb_ll, kb_tl, kb_sl, kb_dl, kb_il, kb_bl, mChain, mChain3, mSet, mSetOw, mRetN, mRaise, mDisp, noSlots, mDrop, mIter, mMeth, ofTy, mFor, forL, mPutF, mFld, putP, lookN, putN, flatB, flatD, max2D, min2D, mPart, mNoPart, mSl, orF, orC, gtD, ltD, leD, leI, geD, subI, addD_ii, modI, isN, isntN, mIfE, mNeg, mBreak, mCont, orE, boxed, ofStr_eq, mMake0, madeR, mOwn, methR, methC, backC, mCell, mSetKey, mSetIx, setL, mAugIx, mCall, mMake, madeC, mLc, mYes, wipeS, backS, backE, mMaxDf, intsD, mIsK, mFrz, frzS, size_le, size_lt, cleanL_append, mMut, appendU, cont_slotE, List.any, List.all, cleanL_ho, hcl, hm, hi, hs]
theorem p_Duty {ws : List Wk} (k : DtOk ws) : m_Duty_new [.cell 0, .lst (ws.map wkD)] [.obj 7 [] []] = .ok .non [.obj 7 ["numbers", "works"] [.cell 1, .lst (ws.map wkD)], numD ws] := by
  have hfew := k.few
  have hlp : ∃ a, forL (gNm 2) b_Duty_new_1 ((List.range ws.length).map fun k => D.int (k : Nat)) ⟨[.fz (.cell 0), .fz (.lst (ws.map wkD)), .no, .no], [.obj 7 ["numbers"] [.cell 1], .dct [] []]⟩ = .nx ⟨[.fz (.cell 0), .fz (.lst (ws.map wkD)), a, .no], [.obj 7 ["numbers"] [.cell 1], numD ws]⟩ := by
    obtain ⟨s2, e2, a, rfl⟩ := forL_inv1 (g := gNm 2) (b := b_Duty_new_1) (fun k : Nat => D.int (k : Nat)) (fun l s => ∃ a, s = ⟨[.fz (.cell 0), .fz (.lst (ws.map wkD)), a, .no], [.obj 7 ["numbers"] [.cell 1], numD (ws.take l.length)]⟩) (List.range ws.length)
      ⟨[.fz (.cell 0), .fz (.lst (ws.map wkD)), .no, .no], [.obj 7 ["numbers"] [.cell 1], .dct [] []]⟩ ⟨_, rfl⟩ fun x l r s e ⟨a, es⟩ => by
        subst es
        obtain ⟨e1, e2, _⟩ := range_split e
        have hx : ws[x]? = some ws[x] := List.getElem?_eq_getElem e2
        have hn : ws[x].nm ∉ (ws.take x).map Wk.nm := fun z => by
          rw [List.map_take] at z
          obtain ⟨j, hj⟩ := List.getElem?_of_mem z
          have hj1 : j < x := by
            have := (List.getElem?_eq_some_iff.mp hj).1
            simp at this
            omega
          rw [List.getElem?_take_of_lt hj1] at hj
          have hx2 : (ws.map Wk.nm)[x]? = some ws[x].nm := by rw [List.getElem?_map, hx]; rfl
          have := nodup_at k.nd hj hx2
          omega
        have ht := dty_turn hx hn k.nd k.few .no
        refine ⟨_, rfl, ⟨[.fz (.cell 0), .fz (.lst (ws.map wkD)), .fz (.int (x : Nat)), .no], [.obj 7 ["numbers"] [.cell 1], numD (ws.take (l ++ [x]).length)]⟩, .inl ?_, _, rfl⟩
        rw [List.length_append, List.length_singleton, ← e1]
        exact ht
    refine ⟨a, ?_⟩
    rw [e2, List.length_range, List.take_length]
  obtain ⟨a, hlp⟩ := hlp
  have hlc := lcL_all (g := gNm 3) (mt := mYes) (me := mCall0 m_made_again [] (mCons (mVar 3) mNil)) (vs := [3]) wkD wkD ⟨[.fz (.cell 0), .fz (.lst (ws.map wkD)), a, .no], [.obj 7 ["numbers"] [.cell 1], numD ws]⟩ ws [] (by have := sizeLine_ge; simp; omega) fun w hw => by
    refine ⟨⟨[.fz (.cell 0), .fz (.lst (ws.map wkD)), a, .fz (wkD w)], [.obj 7 ["numbers"] [.cell 1], numD ws]⟩, ⟨[.fz (.cell 0), .fz (.lst (ws.map wkD)), a, .fz (wkD w)], [.obj 7 ["numbers"] [.cell 1], numD ws]⟩, ⟨[.fz (.cell 0), .fz (.lst (ws.map wkD)), a, .fz (wkD w)], [.obj 7 ["numbers"] [.cell 1], numD ws]⟩, rfl, rfl, ?_, isSlot_clean (clean_wk w), rfl⟩
    have h1 := p_made_again (k.good w hw)
    simp [runF, mSeq, mIf, mRet, mSkip, mVar, mC, mOp, mIsi, mNotV, mAndV, mOrV, mTest, mOr, mAnd, mNot, mCall0, lend_clean, back0, resD_clean, clean_non, clean_bl, clean_int, clean_str, clean_lst, clean_tup, clean_dct, clean_obj, cleanL_nil, cleanL_cons, mCons, mNil, ML.R.bind, ML.R.thenS, setS, lift2, cont_clean, cont_cell, cont_scr, cont_exn, contL, mCB, isSlot_clean, isSlot_cell, isSlot_exn, isSlot_slot, mAsg, gTp, gLs, gsCons, gsNil, gNm, mAug, tyD, kb_ii, kb_ib, kb_bi, kb_bb, kb_si, kb_ss, kb_tt, kb_ll, kb_tl, kb_sl, kb_dl, kb_il, kb_bl, mChain, mChain3, mSet, mSetOw, mRetN, mRaise, mDisp, noSlots, mDrop, mIter, mMeth, ofTy, mFor, forL, mPutF, mFld, putP, lookN, putN, flatB, flatD, max2D, min2D, mPart, mNoPart, mSl, orF, orC, gtD, ltD, leD, leI, geD, subI, addD_ii, modI, isN, isntN, mIfE, mNeg, mBreak, mCont, orE, boxed, ofStr_eq, mMake0, madeR, mOwn, methR, methC, backC, mCell, mSetKey, mSetIx, setL, mAugIx, mCall, mMake, madeC, mLc, mYes, wipeS, backS, backE, mMaxDf, intsD, mIsK, mFrz, frzS, size_le, size_lt, cleanL_append, mMut, appendU, cont_slotE, List.any, List.all, clean_wk, h1]
  have hcr := p_crowd (ws := ws) (x := .cell 1) (cs := [.obj 7 ["numbers", "works"] [.cell 1, .lst (ws.map wkD)], numD ws]) rfl (by omega) k.gap
  have h12 : ¬ (12 : Int) < (ws.length : Int) := by omega
  have h80 : ¬ (80 : Int) < sumC (greD ws) ws := by have := k.crowd; omega
  have hr : ok62 (ws.length : Int) := ok62_nat (by omega)
  rw [List.nil_append] at hlc
  unfold m_Duty_new b_Duty_new
  simp [runF, mSeq, mIf, mRet, mSkip, mVar, mC, mOp, mIsi, mNotV, mAndV, mOrV, mTest, mOr, mAnd, mNot, mCall0, lend_clean, back0, resD_clean, clean_non, clean_bl, clean_int, clean_str, clean_lst, clean_tup, clean_dct, clean_obj, cleanL_nil, cleanL_cons, mCons, mNil, ML.R.bind, ML.R.thenS, setS, lift2, cont_clean, cont_cell, cont_scr, cont_exn, contL, mCB, isSlot_clean, isSlot_cell, isSlot_exn, isSlot_slot, mAsg, gTp, gLs, gsCons, gsNil, gNm, mAug, tyD, kb_ii, kb_ib, kb_bi, kb_bb, kb_si, kb_ss, kb_tt, kb_ll, kb_tl, kb_sl, kb_dl, kb_il, kb_bl, mChain, mChain3, mSet, mSetOw, mRetN, mRaise, mDisp, noSlots, mDrop, mIter, mMeth, ofTy, mFor, forL, mPutF, mFld, putP, lookN, putN, flatB, flatD, max2D, min2D, mPart, mNoPart, mSl, orF, orC, gtD, ltD, leD, leI, geD, subI, addD_ii, modI, isN, isntN, mIfE, mNeg, mBreak, mCont, orE, boxed, ofStr_eq, mMake0, madeR, mOwn, methR, methC, backC, mCell, mSetKey, mSetIx, setL, mAugIx, mCall, mMake, madeC, mLc, mYes, wipeS, backS, backE, mMaxDf, intsD, mIsK, mFrz, frzS, size_le, size_lt, cleanL_append, mMut, appendU, cont_slotE, List.any, List.all, cleanL_wk, lenD, mRange1, hr, rangeD_map, hlp, hlc, h12, h80, hcr]
theorem resO_dt (ws : List Wk) : resO [.obj 7 ["numbers", "works"] [.cell 1, .lst (ws.map wkD)], numD ws] = some (dtD ws) := by
  have hc : clean (numD ws) = true := by
    unfold numD
    rw [clean_dct]
    exact cleanL_ints (fun k : Nat => (k : Int)) _
  unfold dtD
  simp [resO, resL, resD_cell (cs := [D.obj 7 ["numbers", "works"] [.cell 1, .lst (ws.map wkD)], numD ws]) (n := 1) rfl hc, resD_clean, clean_lst, cleanL_wk]
/-! ### numbers as texts -/
def numS (n : Nat) : Str := Str.ofString (toString ((n : Nat) : Int))
theorem tl_numS (n : Nat) : (numS n).cps.toList = TL.numL n := TL.tl_num n
theorem len_numS (n : Nat) : (numS n).length = (TL.numL n).length := by rw [TL.len_tl]; exact congrArg List.length (tl_numS n)
theorem numL_head {n : Nat} (h : 0 < n) : ∀ c, (TL.numL n)[0]? = some c → c ≠ 48 := by
  induction n using Nat.strongRecOn with
  | ind n ih =>
    intro c hc
    by_cases h10 : n < 10
    · rw [TL.numL_lt h10] at hc
      simp at hc
      omega
    · rw [TL.numL_step (by omega)] at hc
      have hne : TL.numL (n / 10) ≠ [] := TL.numL_ne _
      have hl : 0 < (TL.numL (n / 10)).length := List.length_pos_iff.mpr hne
      rw [List.getElem?_append_left hl] at hc
      exact ih (n / 10) (by omega) (by omega) c hc
theorem zero_start (n : Nat) : (decide (numS n = ("0" : Str)) || !Txt.startswith (numS n) "0") = true := by
  by_cases h : n = 0
  · subst h
    have e : numS 0 = ("0" : Str) := by decide +kernel
    rw [e]
    simp
  · have hs : Txt.startswith (numS n) "0" = false := by
      cases q : Txt.startswith (numS n) "0" with
      | false => rfl
      | true =>
        unfold Txt.startswith at q
        simp only [Bool.and_eq_true, decide_eq_true_eq] at q
        have e : (Str.ofString "0") = (⟨#[48]⟩ : Str) := by decide +kernel
        rw [e] at q
        have := (StrLaws.subAt_one (numS n) 48 0).mp q
        rw [tl_numS] at this
        exact absurd rfl (numL_head (by omega) 48 this)
    rw [hs]
    simp
theorem p_is_number {n : Nat} (h : (TL.numL n).length ≤ 60) : m_is_number [.str (numS n)] [] = .ok (.bl true) [] := by
  have hlen := len_numS n
  have hne : 0 < (TL.numL n).length := List.length_pos_iff.mpr (TL.numL_ne n)
  have hsz := sizeLine_ge
  obtain ⟨s2, e2, a, rfl⟩ := forL_inv1 (g := gNm 1) (b := b_is_number_1) (fun c : Nat => D.str ⟨#[c]⟩) (fun _ s => ∃ a, s = ⟨[.fz (.str (numS n)), a], []⟩) (TL.numL n) ⟨[.fz (.str (numS n)), .no], []⟩ ⟨_, rfl⟩ fun c l r s e ⟨a, es⟩ => by
    subst es
    have hc : c ∈ TL.numL n := by rw [e]; simp
    have hd := TL.numL_digits n c hc
    have hin : inD true (.str ⟨#[c]⟩) (.str "0123456789") = some (.bl false) := by
      have hm : c ∈ (Str.ofString "0123456789").cps.toList := by
        have e : (Str.ofString "0123456789").cps.toList = [48, 49, 50, 51, 52, 53, 54, 55, 56, 57] := by decide +kernel
        rw [e]
        simp
        omega
      show some (D.bl (if true = true then !decide (c ∈ (Str.ofString "0123456789").cps.toList) else _)) = _
      rw [if_pos rfl, decide_eq_true hm]
      rfl
    refine ⟨⟨[.fz (.str (numS n)), .fz (.str ⟨#[c]⟩)], []⟩, rfl, ⟨[.fz (.str (numS n)), .fz (.str ⟨#[c]⟩)], []⟩, .inl ?_, _, rfl⟩
    unfold b_is_number_1
    simp [runF, mSeq, mIf, mRet, mSkip, mVar, mC, mOp, mIsi, mNotV, mAndV, mOrV, mTest, mOr, mAnd, mNot, mCall0, lend_clean, back0, resD_clean, clean_non, clean_bl, clean_int, clean_str, clean_lst, clean_tup, clean_dct, clean_obj, cleanL_nil, cleanL_cons, mCons, mNil, ML.R.bind, ML.R.thenS, setS, lift2, cont_clean, cont_cell, cont_scr, cont_exn, contL, mCB, isSlot_clean, isSlot_cell, isSlot_exn, isSlot_slot, mAsg, gTp, gLs, gsCons, gsNil, gNm, mAug, tyD, kb_ii, kb_ib, kb_bi, kb_bb, kb_si, kb_ss, kb_tt, kb_ll, kb_tl, kb_sl, kb_dl, kb_il, kb_bl, mChain, mChain3, mSet, mSetOw, mRetN, mRaise, mDisp, noSlots, mDrop, mIter, mMeth, ofTy, mFor, forL, mPutF, mFld, putP, lookN, putN, flatB, flatD, max2D, min2D, mPart, mNoPart, mSl, orF, orC, gtD, ltD, leD, leI, geD, subI, addD_ii, modI, isN, isntN, mIfE, mNeg, mBreak, mCont, orE, boxed, ofStr_eq, mMake0, madeR, mOwn, methR, methC, backC, mCell, mSetKey, mSetIx, setL, mAugIx, mCall, mMake, madeC, mLc, mYes, wipeS, backS, backE, mMaxDf, intsD, mIsK, mFrz, frzS, size_le, size_lt, cleanL_append, mMut, appendU, cont_slotE, List.any, List.all, hin]
  have hsg : signsD (numS n) = (TL.numL n).map fun c => D.str ⟨#[c]⟩ := by
    unfold signsD
    rw [tl_numS]
  have hz := zero_start n
  have h1 : (1 : Int) ≤ ((TL.numL n).length : Int) := by omega
  have h2 : ((TL.numL n).length : Int) ≤ 60 := by omega
  have h3 : (TL.numL n).length ≤ PySem.sizeLine := by omega
  unfold m_is_number b_is_number
  by_cases h0 : numS n = ("0" : Str)
  · simp [runF, mSeq, mIf, mRet, mSkip, mVar, mC, mOp, mIsi, mNotV, mAndV, mOrV, mTest, mOr, mAnd, mNot, mCall0, lend_clean, back0, resD_clean, clean_non, clean_bl, clean_int, clean_str, clean_lst, clean_tup, clean_dct, clean_obj, cleanL_nil, cleanL_cons, mCons, mNil, ML.R.bind, ML.R.thenS, setS, lift2, cont_clean, cont_cell, cont_scr, cont_exn, contL, mCB, isSlot_clean, isSlot_cell, isSlot_exn, isSlot_slot, mAsg, gTp, gLs, gsCons, gsNil, gNm, mAug, tyD, kb_ii, kb_ib, kb_bi, kb_bb, kb_si, kb_ss, kb_tt, kb_ll, kb_tl, kb_sl, kb_dl, kb_il, kb_bl, mChain, mChain3, mSet, mSetOw, mRetN, mRaise, mDisp, noSlots, mDrop, mIter, mMeth, ofTy, mFor, forL, mPutF, mFld, putP, lookN, putN, flatB, flatD, max2D, min2D, mPart, mNoPart, mSl, orF, orC, gtD, ltD, leD, leI, geD, subI, addD_ii, modI, isN, isntN, mIfE, mNeg, mBreak, mCont, orE, boxed, ofStr_eq, mMake0, madeR, mOwn, methR, methC, backC, mCell, mSetKey, mSetIx, setL, mAugIx, mCall, mMake, madeC, mLc, mYes, wipeS, backS, backE, mMaxDf, intsD, mIsK, mFrz, frzS, size_le, size_lt, cleanL_append, mMut, appendU, cont_slotE, List.any, List.all, lenD, hlen, h1, h2, h3, hsg, e2, eq_ss, startsD, h0]
    rw [h0] at hsg e2 hlen
    simp [runF, mSeq, mIf, mRet, mSkip, mVar, mC, mOp, mIsi, mNotV, mAndV, mOrV, mTest, mOr, mAnd, mNot, mCall0, lend_clean, back0, resD_clean, clean_non, clean_bl, clean_int, clean_str, clean_lst, clean_tup, clean_dct, clean_obj, cleanL_nil, cleanL_cons, mCons, mNil, ML.R.bind, ML.R.thenS, setS, lift2, cont_clean, cont_cell, cont_scr, cont_exn, contL, mCB, isSlot_clean, isSlot_cell, isSlot_exn, isSlot_slot, mAsg, gTp, gLs, gsCons, gsNil, gNm, mAug, tyD, kb_ii, kb_ib, kb_bi, kb_bb, kb_si, kb_ss, kb_tt, kb_ll, kb_tl, kb_sl, kb_dl, kb_il, kb_bl, mChain, mChain3, mSet, mSetOw, mRetN, mRaise, mDisp, noSlots, mDrop, mIter, mMeth, ofTy, mFor, forL, mPutF, mFld, putP, lookN, putN, flatB, flatD, max2D, min2D, mPart, mNoPart, mSl, orF, orC, gtD, ltD, leD, leI, geD, subI, addD_ii, modI, isN, isntN, mIfE, mNeg, mBreak, mCont, orE, boxed, ofStr_eq, mMake0, madeR, mOwn, methR, methC, backC, mCell, mSetKey, mSetIx, setL, mAugIx, mCall, mMake, madeC, mLc, mYes, wipeS, backS, backE, mMaxDf, intsD, mIsK, mFrz, frzS, size_le, size_lt, cleanL_append, mMut, appendU, cont_slotE, List.any, List.all, lenD, hlen, h1, h2, h3, hsg, e2, eq_ss, startsD]
  · have hs : Txt.startswith (numS n) "0" = false := by simpa [h0] using hz
    simp [runF, mSeq, mIf, mRet, mSkip, mVar, mC, mOp, mIsi, mNotV, mAndV, mOrV, mTest, mOr, mAnd, mNot, mCall0, lend_clean, back0, resD_clean, clean_non, clean_bl, clean_int, clean_str, clean_lst, clean_tup, clean_dct, clean_obj, cleanL_nil, cleanL_cons, mCons, mNil, ML.R.bind, ML.R.thenS, setS, lift2, cont_clean, cont_cell, cont_scr, cont_exn, contL, mCB, isSlot_clean, isSlot_cell, isSlot_exn, isSlot_slot, mAsg, gTp, gLs, gsCons, gsNil, gNm, mAug, tyD, kb_ii, kb_ib, kb_bi, kb_bb, kb_si, kb_ss, kb_tt, kb_ll, kb_tl, kb_sl, kb_dl, kb_il, kb_bl, mChain, mChain3, mSet, mSetOw, mRetN, mRaise, mDisp, noSlots, mDrop, mIter, mMeth, ofTy, mFor, forL, mPutF, mFld, putP, lookN, putN, flatB, flatD, max2D, min2D, mPart, mNoPart, mSl, orF, orC, gtD, ltD, leD, leI, geD, subI, addD_ii, modI, isN, isntN, mIfE, mNeg, mBreak, mCont, orE, boxed, ofStr_eq, mMake0, madeR, mOwn, methR, methC, backC, mCell, mSetKey, mSetIx, setL, mAugIx, mCall, mMake, madeC, mLc, mYes, wipeS, backS, backE, mMaxDf, intsD, mIsK, mFrz, frzS, size_le, size_lt, cleanL_append, mMut, appendU, cont_slotE, List.any, List.all, lenD, hlen, h1, h2, h3, hsg, e2, eq_ss, startsD, h0, hs]
theorem p_number_in {n : Nat} (h : (TL.numL n).length ≤ 60) : m_number_in [.str (numS n)] [] = .ok (.int (n : Nat)) [] := by
  have h1 := p_is_number h
  have h2 : PySem.intText? (numS n) = some ((n : Nat) : Int) := TL.int_num (by omega)
  have h3 : (numS n).length ≤ 640 := by rw [len_numS]; omega
  unfold m_number_in b_number_in
  simp [runF, mSeq, mIf, mRet, mSkip, mVar, mC, mOp, mIsi, mNotV, mAndV, mOrV, mTest, mOr, mAnd, mNot, mCall0, lend_clean, back0, resD_clean, clean_non, clean_bl, clean_int, clean_str, clean_lst, clean_tup, clean_dct, clean_obj, cleanL_nil, cleanL_cons, mCons, mNil, ML.R.bind, ML.R.thenS, setS, lift2, cont_clean, cont_cell, cont_scr, cont_exn, contL, mCB, isSlot_clean, isSlot_cell, isSlot_exn, isSlot_slot, mAsg, gTp, gLs, gsCons, gsNil, gNm, mAug, tyD, kb_ii, kb_ib, kb_bi, kb_bb, kb_si, kb_ss, kb_tt, kb_ll, kb_tl, kb_sl, kb_dl, kb_il, kb_bl, mChain, mChain3, mSet, mSetOw, mRetN, mRaise, mDisp, noSlots, mDrop, mIter, mMeth, ofTy, mFor, forL, mPutF, mFld, putP, lookN, putN, flatB, flatD, max2D, min2D, mPart, mNoPart, mSl, orF, orC, gtD, ltD, leD, leI, geD, subI, addD_ii, modI, isN, isntN, mIfE, mNeg, mBreak, mCont, orE, boxed, ofStr_eq, mMake0, madeR, mOwn, methR, methC, backC, mCell, mSetKey, mSetIx, setL, mAugIx, mCall, mMake, madeC, mLc, mYes, wipeS, backS, backE, mMaxDf, intsD, mIsK, mFrz, frzS, size_le, size_lt, cleanL_append, mMut, appendU, cont_slotE, List.any, List.all, h1, intD, h2, h3]
/-- a hold as a text -/
def hoS (t : Str) (a b : Nat) : Str := t ++ ":" ++ numS a ++ "-" ++ numS b
theorem len60 {n : Nat} (h : n < 10 ^ 60) : (TL.numL n).length ≤ 60 := TL.numL_len (by omega) h
theorem strD_nat {n : Nat} (h : n < 10 ^ 60) : strD [.int (n : Nat)] = some (.str (numS n)) := by
  have hl : ((n : Nat) : Int).natAbs.log2 < 1920 := by
    rw [Int.natAbs_natCast]
    by_cases h0 : n = 0
    · subst h0
      decide +kernel
    · exact (Nat.log2_lt h0).mpr (Nat.lt_of_lt_of_le h (by decide +kernel))
  show (if ((n : Nat) : Int).natAbs.log2 < 1920 then some (D.str (Str.ofString (toString ((n : Nat) : Int)))) else none) = _
  rw [if_pos hl]
  rfl
theorem len_app (a b : Str) : (a ++ b).length = a.length + b.length := by
  rw [TL.len_tl, TL.tl_append, List.length_append, ← TL.len_tl, ← TL.len_tl]
theorem p_show_hold {t : Str} {a b : Nat} (ht : t.length ≤ 1000) (ha : a < 10 ^ 60) (hb : b < 10 ^ 60) : m_show_hold [.tup [.str t, .int (a : Nat), .int (b : Nat)]] [] = .ok (.str (hoS t a b)) [] := by
  have h1 := strD_nat ha
  have h2 := strD_nat hb
  have l1 : (numS a).length ≤ 60 := by rw [len_numS]; exact len60 ha
  have l2 : (numS b).length ≤ 60 := by rw [len_numS]; exact len60 hb
  have lc : (Str.ofString ":").length = 1 := by decide +kernel
  have ld : (Str.ofString "-").length = 1 := by decide +kernel
  have hz := sizeLine_ge
  have e1 := addD_ss (a := t) (b := ":") (by omega)
  have e2 := addD_ss (a := t ++ ":") (b := numS a) (by rw [len_app]; omega)
  have e3 := addD_ss (a := t ++ ":" ++ numS a) (b := "-") (by rw [len_app, len_app]; omega)
  have e4 := addD_ss (a := t ++ ":" ++ numS a ++ "-") (b := numS b) (by rw [len_app, len_app, len_app]; omega)
  unfold m_show_hold b_show_hold hoS
  simp [runF, mRet, mOp, mVar, mC, ML.R.bind, ML.R.thenS, lift2, cont_clean, clean_tup, cleanL_cons, cleanL_nil, clean_str, clean_int, ix3_0, ix3_1, ix3_2, e1, e2, e3, e4, mCB, mCons, mNil, contL, h1, h2, isSlot_clean]
theorem app_assoc (a b c : Str) : a ++ b ++ c = a ++ (b ++ c) := TL.ext_tl (by simp only [TL.tl_append, List.append_assoc])
theorem p_read_hold {t : Str} {a b : Nat} (ht : t.length ≤ 1000) (hc : 58 ∉ TL.tl t) (ha : a < 10 ^ 60) (hb : b < 10 ^ 60) : m_read_hold [.str (hoS t a b)] [] = .ok (.tup [.str t, .int (a : Nat), .int (b : Nat)]) [] := by
  have l1 : (numS a).length ≤ 60 := by rw [len_numS]; exact len60 ha
  have l2 : (numS b).length ≤ 60 := by rw [len_numS]; exact len60 hb
  have lc : (Str.ofString ":").length = 1 := by decide +kernel
  have ld : (Str.ofString "-").length = 1 := by decide +kernel
  have hz := sizeLine_ge
  have e1 : Txt.partition (hoS t a b) ":" = (t, (":" : Str), numS a ++ "-" ++ numS b) := by
    have e : hoS t a b = t ++ ":" ++ (numS a ++ "-" ++ numS b) := by unfold hoS; simp only [app_assoc]
    rw [e]
    exact TL.partition_app (s := 58) (S := []) (by decide +kernel) hc
  have e2 : Txt.partition (numS a ++ "-" ++ numS b) "-" = (numS a, ("-" : Str), numS b) :=
    TL.partition_app (s := 45) (S := []) (by decide +kernel) (by rw [show TL.tl (numS a) = TL.numL a from tl_numS a]; exact TL.numL_free (by omega))
  have k1 : (hoS t a b).length ≤ PySem.sizeLine := by unfold hoS; simp only [len_app]; omega
  have k2 : (numS a ++ "-" ++ numS b).length ≤ PySem.sizeLine := by simp only [len_app]; omega
  have p1 : partD (.str (hoS t a b)) [.str ":"] = some (.tup [.str t, .str ":", .str (numS a ++ "-" ++ numS b)]) := by
    simp only [partD]
    rw [if_pos ⟨by rw [lc]; rfl, k1⟩, e1]
  have p2 : partD (.str (numS a ++ "-" ++ numS b)) [.str "-"] = some (.tup [.str (numS a), .str "-", .str (numS b)]) := by
    simp only [partD]
    rw [if_pos ⟨by rw [ld]; rfl, k2⟩, e2]
  have n1 := p_number_in (len60 ha)
  have n2 := p_number_in (len60 hb)
  unfold m_read_hold b_read_hold
  simp [runF, mSeq, mIf, mRet, mSkip, mVar, mC, mOp, mIsi, mNotV, mAndV, mOrV, mTest, mOr, mAnd, mNot, mCall0, lend_clean, back0, resD_clean, clean_non, clean_bl, clean_int, clean_str, clean_lst, clean_tup, clean_dct, clean_obj, cleanL_nil, cleanL_cons, mCons, mNil, ML.R.bind, ML.R.thenS, setS, lift2, cont_clean, cont_cell, cont_scr, cont_exn, contL, mCB, isSlot_clean, isSlot_cell, isSlot_exn, isSlot_slot, mAsg, gTp, gLs, gsCons, gsNil, gNm, mAug, tyD, kb_ii, kb_ib, kb_bi, kb_bb, kb_si, kb_ss, kb_tt, kb_ll, kb_tl, kb_sl, kb_dl, kb_il, kb_bl, mChain, mChain3, mSet, mSetOw, mRetN, mRaise, mDisp, noSlots, mDrop, mIter, mMeth, ofTy, mFor, forL, mPutF, mFld, putP, lookN, putN, flatB, flatD, max2D, min2D, mPart, mNoPart, mSl, orF, orC, gtD, ltD, leD, leI, geD, subI, addD_ii, modI, isN, isntN, mIfE, mNeg, mBreak, mCont, orE, boxed, ofStr_eq, mMake0, madeR, mOwn, methR, methC, backC, mCell, mSetKey, mSetIx, setL, mAugIx, mCall, mMake, madeC, mLc, mYes, wipeS, backS, backE, mMaxDf, intsD, mIsK, mFrz, frzS, size_le, size_lt, cleanL_append, mMut, appendU, cont_slotE, List.any, List.all, p1, p2, n1, n2]
/-! ### works as texts -/
structure NW where
  nm : Str
  g : Nat
  l : Nat
  d : Nat
  e : Nat
  hs : List (Str × Nat × Nat)
def hoN (h : Str × Nat × Nat) : Ho := (h.1, (h.2.1 : Nat), (h.2.2 : Nat))
def NW.wk (w : NW) : Wk := ⟨w.nm, (w.g : Nat), (w.l : Nat), (w.d : Nat), (w.e : Nat), w.hs.map hoN⟩
def hoT (h : Str × Nat × Nat) : Str := hoS h.1 h.2.1 h.2.2
def NW.parts (w : NW) : List Str := [w.nm, numS w.g, numS w.l, numS w.d, numS w.e] ++ w.hs.map hoT
def NW.text (w : NW) : Str := Txt.join " " w.parts
structure NWOk (w : NW) : Prop where
  nm : w.nm.length ≤ 1000
  g : w.g < 10 ^ 60
  l : w.l < 10 ^ 60
  d : w.d < 10 ^ 60
  e : w.e < 10 ^ 60
  few : w.hs.length ≤ 6
  ho : ∀ h ∈ w.hs, h.1.length ≤ 1000 ∧ 58 ∉ TL.tl h.1 ∧ 32 ∉ TL.tl h.1 ∧ h.2.1 < 10 ^ 60 ∧ h.2.2 < 10 ^ 60
  sp : 32 ∉ TL.tl w.nm
theorem strsD_map : ∀ xs : List Str, strsD (xs.map D.str) = some xs
  | [] => rfl
  | x :: xs => by simp [strsD, strsD_map xs]
theorem cleanL_strs : ∀ xs : List Str, cleanL (xs.map D.str) = true
  | [] => Eq.trans rfl rfl
  | x :: xs => by rw [List.map_cons, cleanL_cons, clean_str, cleanL_strs xs] <;> rfl
theorem hoS_len {t : Str} {a b : Nat} (ht : t.length ≤ 1000) (ha : a < 10 ^ 60) (hb : b < 10 ^ 60) : (hoS t a b).length ≤ 1200 := by
  have l1 : (numS a).length ≤ 60 := by rw [len_numS]; exact len60 ha
  have l2 : (numS b).length ≤ 60 := by rw [len_numS]; exact len60 hb
  have lc : (Str.ofString ":").length = 1 := by decide +kernel
  have ld : (Str.ofString "-").length = 1 := by decide +kernel
  unfold hoS
  simp only [len_app]
  omega
theorem sum_le {xs : List Nat} {m : Nat} (h : ∀ x ∈ xs, x ≤ m) : xs.sum ≤ xs.length * m := by
  induction xs with
  | nil => simp
  | cons x xs ih =>
    have h1 := h x List.mem_cons_self
    have h2 := ih fun y hy => h y (List.mem_cons_of_mem _ hy)
    simp only [List.sum_cons, List.length_cons, Nat.succ_mul]
    omega
theorem NWOk.len {w : NW} (k : NWOk w) : ∀ p ∈ w.parts, p.length ≤ 1200 := fun p hp => by
  have l1 : ∀ n, n < 10 ^ 60 → (numS n).length ≤ 60 := fun n h => by rw [len_numS]; exact len60 h
  have := l1 _ k.g
  have := l1 _ k.l
  have := l1 _ k.d
  have := l1 _ k.e
  have := k.nm
  unfold NW.parts at hp
  rcases List.mem_append.mp hp with h | h
  · simp at h
    rcases h with rfl | rfl | rfl | rfl | rfl <;> omega
  · obtain ⟨x, hx, rfl⟩ := List.mem_map.mp h
    obtain ⟨h1, _, _, h2, h3⟩ := k.ho x hx
    exact hoS_len h1 h2 h3
theorem p_show_work {w : NW} (k : NWOk w) : m_show_work [wkD w.wk] [] = .ok (.str w.text) [] := by
  have s1 := strD_nat k.g
  have s2 := strD_nat k.l
  have s3 := strD_nat k.d
  have s4 := strD_nat k.e
  have hh := p_held w.wk
  obtain ⟨hsD, hdef⟩ : ∃ x, x = (w.hs.map hoN).map hoD := ⟨_, rfl⟩
  have hcl : cleanL hsD = true := by rw [hdef]; exact cleanL_ho _
  have hwk : wkD w.wk = .obj 6 wkN [.str w.nm, .int (w.g : Nat), .int (w.l : Nat), .int (w.d : Nat), .int (w.e : Nat), .lst hsD] := by rw [hdef]; rfl
  have hho : w.wk.hs.map hoD = hsD := by rw [hdef]; rfl
  have hlc : ∀ (a : Sl), lcL (gNm 3) mYes (mCall0 m_show_hold [] (mCons (mVar 3) mNil)) [3] hsD [] ⟨[.fz (wkD w.wk), .ow (.lst [.str w.nm, .str (numS w.g), .str (numS w.l), .str (numS w.d), .str (numS w.e)]), a, .no], []⟩ = .ok (w.hs.map fun h => D.str (hoT h)) ⟨[.fz (wkD w.wk), .ow (.lst [.str w.nm, .str (numS w.g), .str (numS w.l), .str (numS w.d), .str (numS w.e)]), a, .no], []⟩ := fun a => by
    have h1 := lcL_all (g := gNm 3) (mt := mYes) (me := mCall0 m_show_hold [] (mCons (mVar 3) mNil)) (vs := [3]) (fun h => hoD (hoN h)) (fun h => D.str (hoT h)) ⟨[.fz (wkD w.wk), .ow (.lst [.str w.nm, .str (numS w.g), .str (numS w.l), .str (numS w.d), .str (numS w.e)]), a, .no], []⟩ w.hs [] (by have := sizeLine_ge; have := k.few; simp; omega) fun h hh => by
      refine ⟨⟨[.fz (wkD w.wk), .ow (.lst [.str w.nm, .str (numS w.g), .str (numS w.l), .str (numS w.d), .str (numS w.e)]), a, .fz (hoD (hoN h))], []⟩, ⟨[.fz (wkD w.wk), .ow (.lst [.str w.nm, .str (numS w.g), .str (numS w.l), .str (numS w.d), .str (numS w.e)]), a, .fz (hoD (hoN h))], []⟩, ⟨[.fz (wkD w.wk), .ow (.lst [.str w.nm, .str (numS w.g), .str (numS w.l), .str (numS w.d), .str (numS w.e)]), a, .fz (hoD (hoN h))], []⟩, rfl, rfl, ?_, rfl, rfl⟩
      obtain ⟨k1, _, _, k2, k3⟩ := k.ho h hh
      have hs := p_show_hold k1 k2 k3
      have hc := clean_ho (hoN h)
      unfold hoD hoN at hc ⊢
      unfold hoT
      simp [runF, mSeq, mIf, mRet, mSkip, mVar, mC, mOp, mIsi, mNotV, mAndV, mOrV, mTest, mOr, mAnd, mNot, mCall0, lend_clean, back0, resD_clean, clean_non, clean_bl, clean_int, clean_str, clean_lst, clean_tup, clean_dct, clean_obj, cleanL_nil, cleanL_cons, mCons, mNil, ML.R.bind, ML.R.thenS, setS, lift2, cont_clean, cont_cell, cont_scr, cont_exn, contL, mCB, isSlot_clean, isSlot_cell, isSlot_exn, isSlot_slot, mAsg, gTp, gLs, gsCons, gsNil, gNm, mAug, tyD, kb_ii, kb_ib, kb_bi, kb_bb, kb_si, kb_ss, kb_tt, kb_ll, kb_tl, kb_sl, kb_dl, kb_il, kb_bl, mChain, mChain3, mSet, mSetOw, mRetN, mRaise, mDisp, noSlots, mDrop, mIter, mMeth, ofTy, mFor, forL, mPutF, mFld, putP, lookN, putN, flatB, flatD, max2D, min2D, mPart, mNoPart, mSl, orF, orC, gtD, ltD, leD, leI, geD, subI, addD_ii, modI, isN, isntN, mIfE, mNeg, mBreak, mCont, orE, boxed, ofStr_eq, mMake0, madeR, mOwn, methR, methC, backC, mCell, mSetKey, mSetIx, setL, mAugIx, mCall, mMake, madeC, mLc, mYes, wipeS, backS, backE, mMaxDf, intsD, mIsK, mFrz, frzS, size_le, size_lt, cleanL_append, mMut, appendU, cont_slotE, List.any, List.all, hs]
    rw [List.nil_append] at h1
    rw [hdef, List.map_map]
    exact h1
  have hjn : joinD (.str " ") [.lst ([.str w.nm, .str (numS w.g), .str (numS w.l), .str (numS w.d), .str (numS w.e)] ++ w.hs.map fun h => D.str (hoT h))] = some (.str w.text) := by
    have e : ([.str w.nm, .str (numS w.g), .str (numS w.l), .str (numS w.d), .str (numS w.e)] ++ w.hs.map fun h => D.str (hoT h)) = w.parts.map D.str := by
      unfold NW.parts
      simp
    rw [e]
    simp only [joinD, strsD_map]
    have lsp : (Str.ofString " ").length = 1 := by decide +kernel
    have l2 : w.parts.length ≤ 11 := by unfold NW.parts; have := k.few; simp; omega
    have l1 := sum_le (xs := w.parts.map (·.length)) (m := 1200) fun x hx => by
      obtain ⟨y, hy, rfl⟩ := List.mem_map.mp hx
      exact k.len y hy
    rw [List.length_map] at l1
    rw [if_pos (by rw [lsp]; omega)]
    rfl
  rw [hho] at hh
  rw [hwk] at hh hlc ⊢
  unfold m_show_work b_show_work b_show_work_1
  have hadd := addD_ll (a := [.str w.nm, .str (numS w.g), .str (numS w.l), .str (numS w.d), .str (numS w.e)]) (b := w.hs.map fun h => D.str (hoT h)) (by have := sizeLine_ge; have := k.few; simp; omega)
  have hc2 : cleanL (w.hs.map fun h => D.str (hoT h)) = true := by
    have := cleanL_strs (w.hs.map hoT)
    rw [List.map_map] at this
    exact this
  simp only [List.cons_append, List.nil_append] at hadd hjn
  simp [runF, mSeq, mIf, mRet, mSkip, mVar, mC, mOp, mIsi, mNotV, mAndV, mOrV, mTest, mOr, mAnd, mNot, mCall0, lend_clean, back0, resD_clean, clean_non, clean_bl, clean_int, clean_str, clean_lst, clean_tup, clean_dct, clean_obj, cleanL_nil, cleanL_cons, mCons, mNil, ML.R.bind, ML.R.thenS, setS, lift2, cont_clean, cont_cell, cont_scr, cont_exn, contL, mCB, isSlot_clean, isSlot_cell, isSlot_exn, isSlot_slot, mAsg, gTp, gLs, gsCons, gsNil, gNm, mAug, tyD, kb_ii, kb_ib, kb_bi, kb_bb, kb_si, kb_ss, kb_tt, kb_ll, kb_tl, kb_sl, kb_dl, kb_il, kb_bl, mChain, mChain3, mSet, mSetOw, mRetN, mRaise, mDisp, noSlots, mDrop, mIter, mMeth, ofTy, mFor, forL, mPutF, mFld, putP, lookN, putN, flatB, flatD, max2D, min2D, mPart, mNoPart, mSl, orF, orC, gtD, ltD, leD, leI, geD, subI, addD_ii, modI, isN, isntN, mIfE, mNeg, mBreak, mCont, orE, boxed, ofStr_eq, mMake0, madeR, mOwn, methR, methC, backC, mCell, mSetKey, mSetIx, setL, mAugIx, mCall, mMake, madeC, mLc, mYes, wipeS, backS, backE, mMaxDf, intsD, mIsK, mFrz, frzS, size_le, size_lt, cleanL_append, mMut, appendU, cont_slotE, List.any, List.all, hcl, s1, s2, s3, s4, hh, hlc, hadd, hjn, hc2]
theorem NWOk.split {w : NW} (k : NWOk w) : Txt.split w.text " " = w.parts := by
  refine TL.split_join (s := 32) (S := []) (by decide +kernel) (by decide +kernel) (by unfold NW.parts; simp) fun p hp => ?_
  have hn : ∀ n, 32 ∉ TL.tl (numS n) := fun n => by rw [show TL.tl (numS n) = TL.numL n from tl_numS n]; exact TL.numL_free (by omega)
  unfold NW.parts at hp
  rcases List.mem_append.mp hp with h | h
  · simp at h
    rcases h with rfl | rfl | rfl | rfl | rfl
    · exact k.sp
    · exact hn _
    · exact hn _
    · exact hn _
    · exact hn _
  · obtain ⟨x, hx, rfl⟩ := List.mem_map.mp h
    obtain ⟨_, _, h3, _, _⟩ := k.ho x hx
    unfold hoT hoS
    simp only [TL.tl_append, List.mem_append, not_or]
    exact ⟨⟨⟨⟨h3, by decide +kernel⟩, hn _⟩, by decide +kernel⟩, hn _⟩
theorem len_join (y : Str) : ∀ parts : List Str, (Txt.join y parts).length ≤ (parts.map (·.length)).sum + parts.length * y.length := by
  intro parts
  rw [TL.join_eq, TL.len_tl, TL.tl_join]
  induction parts with
  | nil => simp [TL.joinL]
  | cons p r ih =>
    cases r with
    | nil => simp [TL.joinL, TL.len_tl]
    | cons q r =>
      have e : TL.joinL (TL.tl y) ((p :: q :: r).map TL.tl) = TL.tl p ++ (TL.tl y ++ TL.joinL (TL.tl y) ((q :: r).map TL.tl)) := rfl
      rw [e]
      simp only [List.length_append, List.map_cons, List.sum_cons, List.length_cons, TL.len_tl] at ih ⊢
      rw [Nat.succ_mul]
      omega
theorem p_words_of {w : NW} (k : NWOk w) : m_words_of [.str w.text] [] = .ok (.lst (w.parts.map D.str)) [] := by
  have hs : splitD (.str w.text) [.str " "] = some (.lst (w.parts.map D.str)) := by
    simp only [splitD]
    have lsp : (Str.ofString " ").length = 1 := by decide +kernel
    have l2 : w.parts.length ≤ 11 := by unfold NW.parts; have := k.few; simp; omega
    have l1 := sum_le (xs := w.parts.map (·.length)) (m := 1200) fun x hx => by
      obtain ⟨y, hy, rfl⟩ := List.mem_map.mp hx
      exact k.len y hy
    rw [List.length_map] at l1
    have l3 := len_join " " w.parts
    have hz := sizeLine_ge
    have l4 : w.text.length ≤ (w.parts.map (·.length)).sum + w.parts.length * (Str.ofString " ").length := l3
    rw [lsp] at l4
    rw [if_pos ⟨by rw [lsp]; rfl, by omega⟩, k.split]
  have hc := cleanL_strs w.parts
  unfold m_words_of b_words_of
  simp [runF, mSeq, mIf, mRet, mSkip, mVar, mC, mOp, mIsi, mNotV, mAndV, mOrV, mTest, mOr, mAnd, mNot, mCall0, lend_clean, back0, resD_clean, clean_non, clean_bl, clean_int, clean_str, clean_lst, clean_tup, clean_dct, clean_obj, cleanL_nil, cleanL_cons, mCons, mNil, ML.R.bind, ML.R.thenS, setS, lift2, cont_clean, cont_cell, cont_scr, cont_exn, contL, mCB, isSlot_clean, isSlot_cell, isSlot_exn, isSlot_slot, mAsg, gTp, gLs, gsCons, gsNil, gNm, mAug, tyD, kb_ii, kb_ib, kb_bi, kb_bb, kb_si, kb_ss, kb_tt, kb_ll, kb_tl, kb_sl, kb_dl, kb_il, kb_bl, mChain, mChain3, mSet, mSetOw, mRetN, mRaise, mDisp, noSlots, mDrop, mIter, mMeth, ofTy, mFor, forL, mPutF, mFld, putP, lookN, putN, flatB, flatD, max2D, min2D, mPart, mNoPart, mSl, orF, orC, gtD, ltD, leD, leI, geD, subI, addD_ii, modI, isN, isntN, mIfE, mNeg, mBreak, mCont, orE, boxed, ofStr_eq, mMake0, madeR, mOwn, methR, methC, backC, mCell, mSetKey, mSetIx, setL, mAugIx, mCall, mMake, madeC, mLc, mYes, wipeS, backS, backE, mMaxDf, intsD, mIsK, mFrz, frzS, size_le, size_lt, cleanL_append, mMut, appendU, cont_slotE, List.any, List.all, hs, hc]
/-! ### a duty's works -/
theorem clean_num (ws : List Wk) : clean (numD ws) = true := by
  unfold numD
  rw [clean_dct]
  exact cleanL_ints (fun k : Nat => (k : Int)) _
theorem clean_dt (ws : List Wk) : clean (dtD ws) = true := by
  unfold dtD
  simp [clean_obj, cleanL_cons, cleanL_nil, clean_num, clean_lst, cleanL_wk]
theorem p_size (ws : List Wk) : m_Duty_size [dtD ws] [] = .ok (.int (ws.length : Nat)) [] := by
  have hc := clean_dt ws
  unfold m_Duty_size b_Duty_size
  unfold dtD at hc ⊢
  simp [runF, mSeq, mIf, mRet, mSkip, mVar, mC, mOp, mIsi, mNotV, mAndV, mOrV, mTest, mOr, mAnd, mNot, mCall0, lend_clean, back0, resD_clean, clean_non, clean_bl, clean_int, clean_str, clean_lst, clean_tup, clean_dct, clean_obj, cleanL_nil, cleanL_cons, mCons, mNil, ML.R.bind, ML.R.thenS, setS, lift2, cont_clean, cont_cell, cont_scr, cont_exn, contL, mCB, isSlot_clean, isSlot_cell, isSlot_exn, isSlot_slot, mAsg, gTp, gLs, gsCons, gsNil, gNm, mAug, tyD, kb_ii, kb_ib, kb_bi, kb_bb, kb_si, kb_ss, kb_tt, kb_ll, kb_tl, kb_sl, kb_dl, kb_il, kb_bl, mChain, mChain3, mSet, mSetOw, mRetN, mRaise, mDisp, noSlots, mDrop, mIter, mMeth, ofTy, mFor, forL, mPutF, mFld, putP, lookN, putN, flatB, flatD, max2D, min2D, mPart, mNoPart, mSl, orF, orC, gtD, ltD, leD, leI, geD, subI, addD_ii, modI, isN, isntN, mIfE, mNeg, mBreak, mCont, orE, boxed, ofStr_eq, mMake0, madeR, mOwn, methR, methC, backC, mCell, mSetKey, mSetIx, setL, mAugIx, mCall, mMake, madeC, mLc, mYes, wipeS, backS, backE, mMaxDf, intsD, mIsK, mFrz, frzS, size_le, size_lt, cleanL_append, mMut, appendU, cont_slotE, List.any, List.all, clean_num, cleanL_wk, lenD]
theorem p_work {ws : List Wk} {x : Nat} {w : Wk} (h : ws[x]? = some w) : m_Duty_work [dtD ws, .int (x : Nat)] [] = .ok (wkD w) [] := by
  have hm := ixL (ds := ws.map wkD) (k := x) (d := wkD w) (by rw [List.getElem?_map, h]; rfl)
  unfold m_Duty_work b_Duty_work dtD
  simp [runF, mSeq, mIf, mRet, mSkip, mVar, mC, mOp, mIsi, mNotV, mAndV, mOrV, mTest, mOr, mAnd, mNot, mCall0, lend_clean, back0, resD_clean, clean_non, clean_bl, clean_int, clean_str, clean_lst, clean_tup, clean_dct, clean_obj, cleanL_nil, cleanL_cons, mCons, mNil, ML.R.bind, ML.R.thenS, setS, lift2, cont_clean, cont_cell, cont_scr, cont_exn, contL, mCB, isSlot_clean, isSlot_cell, isSlot_exn, isSlot_slot, mAsg, gTp, gLs, gsCons, gsNil, gNm, mAug, tyD, kb_ii, kb_ib, kb_bi, kb_bb, kb_si, kb_ss, kb_tt, kb_ll, kb_tl, kb_sl, kb_dl, kb_il, kb_bl, mChain, mChain3, mSet, mSetOw, mRetN, mRaise, mDisp, noSlots, mDrop, mIter, mMeth, ofTy, mFor, forL, mPutF, mFld, putP, lookN, putN, flatB, flatD, max2D, min2D, mPart, mNoPart, mSl, orF, orC, gtD, ltD, leD, leI, geD, subI, addD_ii, modI, isN, isntN, mIfE, mNeg, mBreak, mCont, orE, boxed, ofStr_eq, mMake0, madeR, mOwn, methR, methC, backC, mCell, mSetKey, mSetIx, setL, mAugIx, mCall, mMake, madeC, mLc, mYes, wipeS, backS, backE, mMaxDf, intsD, mIsK, mFrz, frzS, size_le, size_lt, cleanL_append, mMut, appendU, cont_slotE, List.any, List.all, clean_num, cleanL_wk, hm, clean_wk]
theorem map_range {α β : Type} (f : α → β) (ws : List α) (g : Nat → β) (h : ∀ (x : Nat) (w : α), ws[x]? = some w → g x = f w) : (List.range ws.length).map g = ws.map f := by
  refine List.ext_getElem (by simp) fun i h1 h2 => ?_
  have hl : i < ws.length := by simpa using h2
  simp
  exact h i ws[i] (List.getElem?_eq_getElem hl)
theorem p_works_of {ws : List Wk} (hl : ws.length ≤ 1000) : m_works_of [dtD ws] [] = .ok (.lst (ws.map wkD)) [] := by
  have hc := clean_dt ws
  have hs := p_size ws
  have hr : ok62 (ws.length : Int) := ok62_nat (by omega)
  have h1 := lcL_all (g := gNm 1) (mt := mYes) (me := mOwn 7 "work" (methR m_Duty_work []) (mVar 0) (mCons (mVar 1) mNil)) (vs := [1]) (fun k : Nat => D.int (k : Nat)) (fun k : Nat => wkD (ws.getD k ⟨"", 0, 0, 0, 0, []⟩)) ⟨[.fz (dtD ws), .no], []⟩ (List.range ws.length) [] (by have := sizeLine_ge; simp; omega) fun x hx => by
    have hlt : x < ws.length := List.mem_range.mp hx
    have e : ws[x]? = some (ws.getD x ⟨"", 0, 0, 0, 0, []⟩) := by
      rw [List.getD_eq_getElem?_getD, List.getElem?_eq_getElem hlt]
      rfl
    refine ⟨_, _, ⟨[.fz (dtD ws), .fz (.int (x : Nat))], []⟩, rfl, rfl, ?_, isSlot_clean (clean_wk _), rfl⟩
    have hw := p_work e
    have hcw := clean_wk (ws.getD x ⟨"", 0, 0, 0, 0, []⟩)
    generalize ws.getD x ⟨"", 0, 0, 0, 0, []⟩ = w at hw hcw ⊢
    unfold dtD at hw hc ⊢
    simp [runF, mSeq, mIf, mRet, mSkip, mVar, mC, mOp, mIsi, mNotV, mAndV, mOrV, mTest, mOr, mAnd, mNot, mCall0, lend_clean, back0, resD_clean, clean_non, clean_bl, clean_int, clean_str, clean_lst, clean_tup, clean_dct, clean_obj, cleanL_nil, cleanL_cons, mCons, mNil, ML.R.bind, ML.R.thenS, setS, lift2, cont_clean, cont_cell, cont_scr, cont_exn, contL, mCB, isSlot_clean, isSlot_cell, isSlot_exn, isSlot_slot, mAsg, gTp, gLs, gsCons, gsNil, gNm, mAug, tyD, kb_ii, kb_ib, kb_bi, kb_bb, kb_si, kb_ss, kb_tt, kb_ll, kb_tl, kb_sl, kb_dl, kb_il, kb_bl, mChain, mChain3, mSet, mSetOw, mRetN, mRaise, mDisp, noSlots, mDrop, mIter, mMeth, ofTy, mFor, forL, mPutF, mFld, putP, lookN, putN, flatB, flatD, max2D, min2D, mPart, mNoPart, mSl, orF, orC, gtD, ltD, leD, leI, geD, subI, addD_ii, modI, isN, isntN, mIfE, mNeg, mBreak, mCont, orE, boxed, ofStr_eq, mMake0, madeR, mOwn, methR, methC, backC, mCell, mSetKey, mSetIx, setL, mAugIx, mCall, mMake, madeC, mLc, mYes, wipeS, backS, backE, mMaxDf, intsD, mIsK, mFrz, frzS, size_le, size_lt, cleanL_append, mMut, appendU, cont_slotE, List.any, List.all, clean_num, cleanL_wk, hw, hcw]
  rw [map_range wkD ws (fun k : Nat => wkD (ws.getD k ⟨"", 0, 0, 0, 0, []⟩)) fun x w h => by rw [List.getD_eq_getElem?_getD, h]; rfl, List.nil_append] at h1
  unfold m_works_of b_works_of
  unfold dtD at hc hs h1 ⊢
  simp [runF, mSeq, mIf, mRet, mSkip, mVar, mC, mOp, mIsi, mNotV, mAndV, mOrV, mTest, mOr, mAnd, mNot, mCall0, lend_clean, back0, resD_clean, clean_non, clean_bl, clean_int, clean_str, clean_lst, clean_tup, clean_dct, clean_obj, cleanL_nil, cleanL_cons, mCons, mNil, ML.R.bind, ML.R.thenS, setS, lift2, cont_clean, cont_cell, cont_scr, cont_exn, contL, mCB, isSlot_clean, isSlot_cell, isSlot_exn, isSlot_slot, mAsg, gTp, gLs, gsCons, gsNil, gNm, mAug, tyD, kb_ii, kb_ib, kb_bi, kb_bb, kb_si, kb_ss, kb_tt, kb_ll, kb_tl, kb_sl, kb_dl, kb_il, kb_bl, mChain, mChain3, mSet, mSetOw, mRetN, mRaise, mDisp, noSlots, mDrop, mIter, mMeth, ofTy, mFor, forL, mPutF, mFld, putP, lookN, putN, flatB, flatD, max2D, min2D, mPart, mNoPart, mSl, orF, orC, gtD, ltD, leD, leI, geD, subI, addD_ii, modI, isN, isntN, mIfE, mNeg, mBreak, mCont, orE, boxed, ofStr_eq, mMake0, madeR, mOwn, methR, methC, backC, mCell, mSetKey, mSetIx, setL, mAugIx, mCall, mMake, madeC, mLc, mYes, wipeS, backS, backE, mMaxDf, intsD, mIsK, mFrz, frzS, size_le, size_lt, cleanL_append, mMut, appendU, cont_slotE, List.any, List.all, clean_num, cleanL_wk, hs, mRange1, hr, rangeD_map, h1]
theorem p_with_work {ws : List Wk} {w : Wk} {x : Str} (e2 : m_read_work [.str x] [] = .ok (wkD w) []) (h : DtOk (ws ++ [w])) : m_with_work [dtD ws, .str x] [] = .ok (dtD (ws ++ [w])) [] := by
  have hl : ws.length ≤ 12 := by have := h.few; simp at this; omega
  have e1 := p_works_of (ws := ws) (by omega)
  have e3 := p_Duty h
  have e4 := resO_dt (ws ++ [w])
  have hadd := addD_ll (a := ws.map wkD) (b := [wkD w]) (by have := sizeLine_ge; simp; omega)
  rw [List.map_append, List.map_cons, List.map_nil] at e3 e4
  unfold m_with_work b_with_work
  simp [runF, mSeq, mIf, mRet, mSkip, mVar, mC, mOp, mIsi, mNotV, mAndV, mOrV, mTest, mOr, mAnd, mNot, mCall0, lend_clean, back0, resD_clean, clean_non, clean_bl, clean_int, clean_str, clean_lst, clean_tup, clean_dct, clean_obj, cleanL_nil, cleanL_cons, mCons, mNil, ML.R.bind, ML.R.thenS, setS, lift2, cont_clean, cont_cell, cont_scr, cont_exn, contL, mCB, isSlot_clean, isSlot_cell, isSlot_exn, isSlot_slot, mAsg, gTp, gLs, gsCons, gsNil, gNm, mAug, tyD, kb_ii, kb_ib, kb_bi, kb_bb, kb_si, kb_ss, kb_tt, kb_ll, kb_tl, kb_sl, kb_dl, kb_il, kb_bl, mChain, mChain3, mSet, mSetOw, mRetN, mRaise, mDisp, noSlots, mDrop, mIter, mMeth, ofTy, mFor, forL, mPutF, mFld, putP, lookN, putN, flatB, flatD, max2D, min2D, mPart, mNoPart, mSl, orF, orC, gtD, ltD, leD, leI, geD, subI, addD_ii, modI, isN, isntN, mIfE, mNeg, mBreak, mCont, orE, boxed, ofStr_eq, mMake0, madeR, mOwn, methR, methC, backC, mCell, mSetKey, mSetIx, setL, mAugIx, mCall, mMake, madeC, mLc, mYes, wipeS, backS, backE, mMaxDf, intsD, mIsK, mFrz, frzS, size_le, size_lt, cleanL_append, mMut, appendU, cont_slotE, List.any, List.all, clean_dt, cleanL_wk, clean_wk, e1, e2, hadd, e3, e4]
/-- what the reading or the duty raises -/
theorem p_with_bad {ws : List Wk} {x : Str} {c : Nat} (hl : ws.length ≤ 12) (e : m_read_work [.str x] [] = .exc ⟨c, [], []⟩ []) : m_with_work [dtD ws, .str x] [] = .exc ⟨c, [], []⟩ [] := by
  have e1 := p_works_of (ws := ws) (by omega)
  unfold m_with_work b_with_work
  simp [runF, mSeq, mIf, mRet, mSkip, mVar, mC, mOp, mIsi, mNotV, mAndV, mOrV, mTest, mOr, mAnd, mNot, mCall0, lend_clean, back0, resD_clean, clean_non, clean_bl, clean_int, clean_str, clean_lst, clean_tup, clean_dct, clean_obj, cleanL_nil, cleanL_cons, mCons, mNil, ML.R.bind, ML.R.thenS, setS, lift2, cont_clean, cont_cell, cont_scr, cont_exn, contL, mCB, isSlot_clean, isSlot_cell, isSlot_exn, isSlot_slot, mAsg, gTp, gLs, gsCons, gsNil, gNm, mAug, tyD, kb_ii, kb_ib, kb_bi, kb_bb, kb_si, kb_ss, kb_tt, kb_ll, kb_tl, kb_sl, kb_dl, kb_il, kb_bl, mChain, mChain3, mSet, mSetOw, mRetN, mRaise, mDisp, noSlots, mDrop, mIter, mMeth, ofTy, mFor, forL, mPutF, mFld, putP, lookN, putN, flatB, flatD, max2D, min2D, mPart, mNoPart, mSl, orF, orC, gtD, ltD, leD, leI, geD, subI, addD_ii, modI, isN, isntN, mIfE, mNeg, mBreak, mCont, orE, boxed, ofStr_eq, mMake0, madeR, mOwn, methR, methC, backC, mCell, mSetKey, mSetIx, setL, mAugIx, mCall, mMake, madeC, mLc, mYes, wipeS, backS, backE, mMaxDf, intsD, mIsK, mFrz, frzS, size_le, size_lt, cleanL_append, mMut, appendU, cont_slotE, List.any, List.all, clean_dt, cleanL_wk, clean_wk, e1, e]
theorem p_with_bad2 {ws : List Wk} {w : Wk} {x : Str} {c : Nat} {cs : List D} (hl : ws.length ≤ 12) (e2 : m_read_work [.str x] [] = .ok (wkD w) []) (e : m_Duty_new [.cell 0, .lst ((ws ++ [w]).map wkD)] [.obj 7 [] []] = .exc ⟨c, [], []⟩ cs) : m_with_work [dtD ws, .str x] [] = .exc ⟨c, [], []⟩ [] := by
  have e1 := p_works_of (ws := ws) (by omega)
  have hadd := addD_ll (a := ws.map wkD) (b := [wkD w]) (by have := sizeLine_ge; simp; omega)
  rw [List.map_append, List.map_cons, List.map_nil] at e
  unfold m_with_work b_with_work
  simp [runF, mSeq, mIf, mRet, mSkip, mVar, mC, mOp, mIsi, mNotV, mAndV, mOrV, mTest, mOr, mAnd, mNot, mCall0, lend_clean, back0, resD_clean, clean_non, clean_bl, clean_int, clean_str, clean_lst, clean_tup, clean_dct, clean_obj, cleanL_nil, cleanL_cons, mCons, mNil, ML.R.bind, ML.R.thenS, setS, lift2, cont_clean, cont_cell, cont_scr, cont_exn, contL, mCB, isSlot_clean, isSlot_cell, isSlot_exn, isSlot_slot, mAsg, gTp, gLs, gsCons, gsNil, gNm, mAug, tyD, kb_ii, kb_ib, kb_bi, kb_bb, kb_si, kb_ss, kb_tt, kb_ll, kb_tl, kb_sl, kb_dl, kb_il, kb_bl, mChain, mChain3, mSet, mSetOw, mRetN, mRaise, mDisp, noSlots, mDrop, mIter, mMeth, ofTy, mFor, forL, mPutF, mFld, putP, lookN, putN, flatB, flatD, max2D, min2D, mPart, mNoPart, mSl, orF, orC, gtD, ltD, leD, leI, geD, subI, addD_ii, modI, isN, isntN, mIfE, mNeg, mBreak, mCont, orE, boxed, ofStr_eq, mMake0, madeR, mOwn, methR, methC, backC, mCell, mSetKey, mSetIx, setL, mAugIx, mCall, mMake, madeC, mLc, mYes, wipeS, backS, backE, mMaxDf, intsD, mIsK, mFrz, frzS, size_le, size_lt, cleanL_append, mMut, appendU, cont_slotE, List.any, List.all, clean_dt, cleanL_wk, clean_wk, e1, e2, hadd, e]
/-! ### the desk -/
def deskD (d : D) : D := .obj 8 ["duty"] [d]
theorem dt_nil : DtOk [] := ⟨by simp, by simp, by simp, by simp, by decide⟩
theorem p_desk_new {n : Nat} {cs : List D} (h : cs[n]? = some (.obj 8 [] [])) : m_Desk_new [.cell n] cs = .ok .non (cs.set n (deskD (dtD []))) := by
  obtain ⟨hl, h'⟩ := List.getElem?_eq_some_iff.mp h
  have e3 := p_Duty dt_nil
  have e4 := resO_dt []
  have hc := clean_dt []
  rw [List.map_nil] at e3 e4
  unfold m_Desk_new b_Desk_new deskD
  simp [runF, mSeq, mIf, mRet, mSkip, mVar, mC, mOp, mIsi, mNotV, mAndV, mOrV, mTest, mOr, mAnd, mNot, mCall0, lend_clean, back0, resD_clean, clean_non, clean_bl, clean_int, clean_str, clean_lst, clean_tup, clean_dct, clean_obj, cleanL_nil, cleanL_cons, mCons, mNil, ML.R.bind, ML.R.thenS, setS, lift2, cont_clean, cont_cell, cont_scr, cont_exn, contL, mCB, isSlot_clean, isSlot_cell, isSlot_exn, isSlot_slot, mAsg, gTp, gLs, gsCons, gsNil, gNm, mAug, tyD, kb_ii, kb_ib, kb_bi, kb_bb, kb_si, kb_ss, kb_tt, kb_ll, kb_tl, kb_sl, kb_dl, kb_il, kb_bl, mChain, mChain3, mSet, mSetOw, mRetN, mRaise, mDisp, noSlots, mDrop, mIter, mMeth, ofTy, mFor, forL, mPutF, mFld, putP, lookN, putN, flatB, flatD, max2D, min2D, mPart, mNoPart, mSl, orF, orC, gtD, ltD, leD, leI, geD, subI, addD_ii, modI, isN, isntN, mIfE, mNeg, mBreak, mCont, orE, boxed, ofStr_eq, mMake0, madeR, mOwn, methR, methC, backC, mCell, mSetKey, mSetIx, setL, mAugIx, mCall, mMake, madeC, mLc, mYes, wipeS, backS, backE, mMaxDf, intsD, mIsK, mFrz, frzS, size_le, size_lt, cleanL_append, mMut, appendU, cont_slotE, List.any, List.all, h', hl, e3, e4, hc]
theorem part_sp {a b : Str} (ha : a.length ≤ 1000) (hb : b.length ≤ 100000) (h : 32 ∉ TL.tl a) : partD (.str (a ++ " " ++ b)) [.str " "] = some (.tup [.str a, .str " ", .str b]) := by
  have ls : (Str.ofString " ").length = 1 := by decide +kernel
  have hz := sizeLine_ge
  have e2 : Txt.partition (a ++ " " ++ b) " " = (a, (" " : Str), b) := TL.partition_app (s := 32) (S := []) (by decide +kernel) h
  simp only [partD]
  rw [if_pos ⟨by rw [ls]; rfl, by simp only [len_app]; omega⟩, e2]
theorem p_say_work {n : Nat} {cs : List D} {ws : List Wk} {x : Str} {v : List Wk} (h : cs[n]? = some (deskD (dtD ws))) (hx : x.length ≤ 100000) (e : m_with_work [dtD ws, .str x] [] = .ok (dtD v) []) :
    m_Desk_say [.cell n, .str ("work" ++ " " ++ x)] cs = .ok (.str "ok") (cs.set n (deskD (dtD v))) := by
  obtain ⟨hl, h'⟩ := List.getElem?_eq_some_iff.mp h
  have hp := part_sp (a := "work") (b := x) (by decide +kernel) hx (by decide +kernel)
  unfold m_Desk_say b_Desk_say
  unfold deskD at h' ⊢
  simp [runF, mSeq, mIf, mRet, mSkip, mVar, mC, mOp, mIsi, mNotV, mAndV, mOrV, mTest, mOr, mAnd, mNot, mCall0, lend_clean, back0, resD_clean, clean_non, clean_bl, clean_int, clean_str, clean_lst, clean_tup, clean_dct, clean_obj, cleanL_nil, cleanL_cons, mCons, mNil, ML.R.bind, ML.R.thenS, setS, lift2, cont_clean, cont_cell, cont_scr, cont_exn, contL, mCB, isSlot_clean, isSlot_cell, isSlot_exn, isSlot_slot, mAsg, gTp, gLs, gsCons, gsNil, gNm, mAug, tyD, kb_ii, kb_ib, kb_bi, kb_bb, kb_si, kb_ss, kb_tt, kb_ll, kb_tl, kb_sl, kb_dl, kb_il, kb_bl, mChain, mChain3, mSet, mSetOw, mRetN, mRaise, mDisp, noSlots, mDrop, mIter, mMeth, ofTy, mFor, forL, mPutF, mFld, putP, lookN, putN, flatB, flatD, max2D, min2D, mPart, mNoPart, mSl, orF, orC, gtD, ltD, leD, leI, geD, subI, addD_ii, modI, isN, isntN, mIfE, mNeg, mBreak, mCont, orE, boxed, ofStr_eq, mMake0, madeR, mOwn, methR, methC, backC, mCell, mSetKey, mSetIx, setL, mAugIx, mCall, mMake, madeC, mLc, mYes, wipeS, backS, backE, mMaxDf, intsD, mIsK, mFrz, frzS, size_le, size_lt, cleanL_append, mMut, appendU, cont_slotE, List.any, List.all, h', hl, hp, e, clean_dt, eq_ss]
theorem p_say_bad {n : Nat} {cs : List D} {ws : List Wk} {x : Str} {c : Nat} (h : cs[n]? = some (deskD (dtD ws))) (hx : x.length ≤ 100000) (e : m_with_work [dtD ws, .str x] [] = .exc ⟨c, [], []⟩ []) :
    m_Desk_say [.cell n, .str ("work" ++ " " ++ x)] cs = .exc ⟨c, [], []⟩ cs := by
  have hp := part_sp (a := "work") (b := x) (by decide +kernel) hx (by decide +kernel)
  unfold m_Desk_say b_Desk_say
  unfold deskD at h
  simp [runF, mSeq, mIf, mRet, mSkip, mVar, mC, mOp, mIsi, mNotV, mAndV, mOrV, mTest, mOr, mAnd, mNot, mCall0, lend_clean, back0, resD_clean, clean_non, clean_bl, clean_int, clean_str, clean_lst, clean_tup, clean_dct, clean_obj, cleanL_nil, cleanL_cons, mCons, mNil, ML.R.bind, ML.R.thenS, setS, lift2, cont_clean, cont_cell, cont_scr, cont_exn, contL, mCB, isSlot_clean, isSlot_cell, isSlot_exn, isSlot_slot, mAsg, gTp, gLs, gsCons, gsNil, gNm, mAug, tyD, kb_ii, kb_ib, kb_bi, kb_bb, kb_si, kb_ss, kb_tt, kb_ll, kb_tl, kb_sl, kb_dl, kb_il, kb_bl, mChain, mChain3, mSet, mSetOw, mRetN, mRaise, mDisp, noSlots, mDrop, mIter, mMeth, ofTy, mFor, forL, mPutF, mFld, putP, lookN, putN, flatB, flatD, max2D, min2D, mPart, mNoPart, mSl, orF, orC, gtD, ltD, leD, leI, geD, subI, addD_ii, modI, isN, isntN, mIfE, mNeg, mBreak, mCont, orE, boxed, ofStr_eq, mMake0, madeR, mOwn, methR, methC, backC, mCell, mSetKey, mSetIx, setL, mAugIx, mCall, mMake, madeC, mLc, mYes, wipeS, backS, backE, mMaxDf, intsD, mIsK, mFrz, frzS, size_le, size_lt, cleanL_append, mMut, appendU, cont_slotE, List.any, List.all, h, hp, e, clean_dt, eq_ss]
theorem NWOk.tlen {w : NW} (k : NWOk w) : w.text.length ≤ 20000 := by
  have l2 : w.parts.length ≤ 11 := by unfold NW.parts; have := k.few; simp; omega
  have lsp : (Str.ofString " ").length = 1 := by decide +kernel
  have l1 := sum_le (xs := w.parts.map (·.length)) (m := 1200) fun x hx => by
    obtain ⟨y, hy, rfl⟩ := List.mem_map.mp hx
    exact k.len y hy
  rw [List.length_map] at l1
  have l4 : w.text.length ≤ (w.parts.map (·.length)).sum + w.parts.length * (Str.ofString " ").length := len_join " " w.parts
  rw [lsp] at l4
  omega
def showS (ws : List NW) : Str := Txt.join "; " (ws.map NW.text)
theorem p_said_show {ws : List NW} (k : ∀ w ∈ ws, NWOk w) (hl : ws.length ≤ 12) : m_said [dtD (ws.map NW.wk), .str "show", .str "", .str ""] [] = .ok (.str (showS ws)) [] := by
  have e1 := p_works_of (ws := ws.map NW.wk) (by simp; omega)
  have h1 := lcL_all (g := gNm 4) (mt := mYes) (me := mCall0 m_show_work [] (mCons (mVar 4) mNil)) (vs := [4]) (fun w : NW => wkD w.wk) (fun w => D.str w.text) ⟨[.fz (dtD (ws.map NW.wk)), .fz (.str "show"), .fz (.str ""), .fz (.str ""), .no, .no], []⟩ ws [] (by have := sizeLine_ge; simp; omega) fun w hw => by
    refine ⟨_, _, ⟨[.fz (dtD (ws.map NW.wk)), .fz (.str "show"), .fz (.str ""), .fz (.str ""), .fz (wkD w.wk), .no], []⟩, rfl, rfl, ?_, rfl, rfl⟩
    have hs := p_show_work (k w hw)
    simp [runF, mSeq, mIf, mRet, mSkip, mVar, mC, mOp, mIsi, mNotV, mAndV, mOrV, mTest, mOr, mAnd, mNot, mCall0, lend_clean, back0, resD_clean, clean_non, clean_bl, clean_int, clean_str, clean_lst, clean_tup, clean_dct, clean_obj, cleanL_nil, cleanL_cons, mCons, mNil, ML.R.bind, ML.R.thenS, setS, lift2, cont_clean, cont_cell, cont_scr, cont_exn, contL, mCB, isSlot_clean, isSlot_cell, isSlot_exn, isSlot_slot, mAsg, gTp, gLs, gsCons, gsNil, gNm, mAug, tyD, kb_ii, kb_ib, kb_bi, kb_bb, kb_si, kb_ss, kb_tt, kb_ll, kb_tl, kb_sl, kb_dl, kb_il, kb_bl, mChain, mChain3, mSet, mSetOw, mRetN, mRaise, mDisp, noSlots, mDrop, mIter, mMeth, ofTy, mFor, forL, mPutF, mFld, putP, lookN, putN, flatB, flatD, max2D, min2D, mPart, mNoPart, mSl, orF, orC, gtD, ltD, leD, leI, geD, subI, addD_ii, modI, isN, isntN, mIfE, mNeg, mBreak, mCont, orE, boxed, ofStr_eq, mMake0, madeR, mOwn, methR, methC, backC, mCell, mSetKey, mSetIx, setL, mAugIx, mCall, mMake, madeC, mLc, mYes, wipeS, backS, backE, mMaxDf, intsD, mIsK, mFrz, frzS, size_le, size_lt, cleanL_append, mMut, appendU, cont_slotE, List.any, List.all, clean_wk, hs]
  have hj : joinD (.str "; ") [.lst (ws.map fun w => D.str w.text)] = some (.str (showS ws)) := by
    have e : (ws.map fun w => D.str w.text) = (ws.map NW.text).map D.str := by simp
    rw [e]
    simp only [joinD, strsD_map]
    have lsp : (Str.ofString "; ").length = 2 := by decide +kernel
    have l1 := sum_le (xs := (ws.map NW.text).map (·.length)) (m := 20000) fun x hx => by
      obtain ⟨y, hy, rfl⟩ := List.mem_map.mp hx
      obtain ⟨w, hw, rfl⟩ := List.mem_map.mp hy
      exact (k w hw).tlen
    rw [List.length_map, List.length_map] at l1
    rw [if_pos (by rw [lsp, List.length_map]; omega)]
    rfl
  have hc2 : cleanL (ws.map fun w => D.str w.text) = true := by
    have := cleanL_strs (ws.map NW.text)
    rw [List.map_map] at this
    exact this
  have hcw := cleanL_wk (ws.map NW.wk)
  rw [List.nil_append] at h1
  rw [List.map_map] at e1 hcw
  have e0 : (ws.map fun w : NW => wkD w.wk) = ws.map (wkD ∘ NW.wk) := rfl
  rw [e0] at h1
  unfold m_said b_said
  simp [runF, mSeq, mIf, mRet, mSkip, mVar, mC, mOp, mIsi, mNotV, mAndV, mOrV, mTest, mOr, mAnd, mNot, mCall0, lend_clean, back0, resD_clean, clean_non, clean_bl, clean_int, clean_str, clean_lst, clean_tup, clean_dct, clean_obj, cleanL_nil, cleanL_cons, mCons, mNil, ML.R.bind, ML.R.thenS, setS, lift2, cont_clean, cont_cell, cont_scr, cont_exn, contL, mCB, isSlot_clean, isSlot_cell, isSlot_exn, isSlot_slot, mAsg, gTp, gLs, gsCons, gsNil, gNm, mAug, tyD, kb_ii, kb_ib, kb_bi, kb_bb, kb_si, kb_ss, kb_tt, kb_ll, kb_tl, kb_sl, kb_dl, kb_il, kb_bl, mChain, mChain3, mSet, mSetOw, mRetN, mRaise, mDisp, noSlots, mDrop, mIter, mMeth, ofTy, mFor, forL, mPutF, mFld, putP, lookN, putN, flatB, flatD, max2D, min2D, mPart, mNoPart, mSl, orF, orC, gtD, ltD, leD, leI, geD, subI, addD_ii, modI, isN, isntN, mIfE, mNeg, mBreak, mCont, orE, boxed, ofStr_eq, mMake0, madeR, mOwn, methR, methC, backC, mCell, mSetKey, mSetIx, setL, mAugIx, mCall, mMake, madeC, mLc, mYes, wipeS, backS, backE, mMaxDf, intsD, mIsK, mFrz, frzS, size_le, size_lt, cleanL_append, mMut, appendU, cont_slotE, List.any, List.all, clean_dt, e1, hcw, h1, hj, hc2, eq_ss]
theorem p_say_show {n : Nat} {cs : List D} {ws : List NW} (k : ∀ w ∈ ws, NWOk w) (hl : ws.length ≤ 12) (h : cs[n]? = some (deskD (dtD (ws.map NW.wk)))) : m_Desk_say [.cell n, .str "show"] cs = .ok (.str (showS ws)) cs := by
  have hp : partD (.str "show") [.str " "] = some (.tup [.str "show", .str "", .str ""]) := by
    have ls : (Str.ofString " ").length = 1 := by decide +kernel
    have l4 : (Str.ofString "show").length = 4 := by decide +kernel
    have hz := sizeLine_ge
    have e : Str.empty = ("" : Str) := by decide +kernel
    have e2 : Txt.partition "show" " " = (("show" : Str), (Str.empty : Str), Str.empty) := TL.partition_none (s := 32) (S := []) (by decide +kernel) (by decide +kernel)
    simp only [partD]
    rw [if_pos ⟨by rw [ls]; rfl, by rw [l4]; omega⟩, e2, e]
  have hs := p_said_show k hl
  unfold m_Desk_say b_Desk_say
  unfold deskD at h
  simp [runF, mSeq, mIf, mRet, mSkip, mVar, mC, mOp, mIsi, mNotV, mAndV, mOrV, mTest, mOr, mAnd, mNot, mCall0, lend_clean, back0, resD_clean, clean_non, clean_bl, clean_int, clean_str, clean_lst, clean_tup, clean_dct, clean_obj, cleanL_nil, cleanL_cons, mCons, mNil, ML.R.bind, ML.R.thenS, setS, lift2, cont_clean, cont_cell, cont_scr, cont_exn, contL, mCB, isSlot_clean, isSlot_cell, isSlot_exn, isSlot_slot, mAsg, gTp, gLs, gsCons, gsNil, gNm, mAug, tyD, kb_ii, kb_ib, kb_bi, kb_bb, kb_si, kb_ss, kb_tt, kb_ll, kb_tl, kb_sl, kb_dl, kb_il, kb_bl, mChain, mChain3, mSet, mSetOw, mRetN, mRaise, mDisp, noSlots, mDrop, mIter, mMeth, ofTy, mFor, forL, mPutF, mFld, putP, lookN, putN, flatB, flatD, max2D, min2D, mPart, mNoPart, mSl, orF, orC, gtD, ltD, leD, leI, geD, subI, addD_ii, modI, isN, isntN, mIfE, mNeg, mBreak, mCont, orE, boxed, ofStr_eq, mMake0, madeR, mOwn, methR, methC, backC, mCell, mSetKey, mSetIx, setL, mAugIx, mCall, mMake, madeC, mLc, mYes, wipeS, backS, backE, mMaxDf, intsD, mIsK, mFrz, frzS, size_le, size_lt, cleanL_append, mMut, appendU, cont_slotE, List.any, List.all, h, hp, hs, clean_dt, eq_ss]
/-! ### the law's own defs -/
theorem p_cell_at {ns : List Int} {k : Nat} (cs : List D) : m_l_law_cell_at [.scr ns, .int (k : Nat)] cs = .ok (.int (ns.getD k 0)) cs := by
  unfold m_l_law_cell_at b_l_law_cell_at
  by_cases h : k < ns.length
  · have e : ns[k]? = some (ns.getD k 0) := by rw [List.getD_eq_getElem?_getD, List.getElem?_eq_getElem h]; rfl
    have hx := ixS e
    have h2 : (k : Int) < (ns.length : Int) := by omega
    simp [runF, mSeq, mIf, mRet, mSkip, mVar, mC, mOp, mIsi, mNotV, mAndV, mOrV, mTest, mOr, mAnd, mNot, mCall0, lend_clean, back0, resD_clean, clean_non, clean_bl, clean_int, clean_str, clean_lst, clean_tup, clean_dct, clean_obj, cleanL_nil, cleanL_cons, mCons, mNil, ML.R.bind, ML.R.thenS, setS, lift2, cont_clean, cont_cell, cont_scr, cont_exn, contL, mCB, isSlot_clean, isSlot_cell, isSlot_exn, isSlot_slot, mAsg, gTp, gLs, gsCons, gsNil, gNm, mAug, tyD, kb_ii, kb_ib, kb_bi, kb_bb, kb_si, kb_ss, kb_tt, kb_ll, kb_tl, kb_sl, kb_dl, kb_il, kb_bl, mChain, mChain3, mSet, mSetOw, mRetN, mRaise, mDisp, noSlots, mDrop, mIter, mMeth, ofTy, mFor, forL, mPutF, mFld, putP, lookN, putN, flatB, flatD, max2D, min2D, mPart, mNoPart, mSl, orF, orC, gtD, ltD, leD, leI, geD, subI, addD_ii, modI, isN, isntN, mIfE, mNeg, mBreak, mCont, orE, boxed, ofStr_eq, mMake0, madeR, mOwn, methR, methC, backC, mCell, mSetKey, mSetIx, setL, mAugIx, mCall, mMake, madeC, mLc, mYes, wipeS, backS, backE, mMaxDf, intsD, mIsK, mFrz, frzS, size_le, size_lt, cleanL_append, mMut, appendU, cont_slotE, List.any, List.all, lenD, hx, h2]
  · have h2 : ¬ (k : Int) < (ns.length : Int) := by omega
    have e : ns.getD k 0 = 0 := by rw [List.getD_eq_getElem?_getD, List.getElem?_eq_none (by omega)]; rfl
    rw [e]
    simp [runF, mSeq, mIf, mRet, mSkip, mVar, mC, mOp, mIsi, mNotV, mAndV, mOrV, mTest, mOr, mAnd, mNot, mCall0, lend_clean, back0, resD_clean, clean_non, clean_bl, clean_int, clean_str, clean_lst, clean_tup, clean_dct, clean_obj, cleanL_nil, cleanL_cons, mCons, mNil, ML.R.bind, ML.R.thenS, setS, lift2, cont_clean, cont_cell, cont_scr, cont_exn, contL, mCB, isSlot_clean, isSlot_cell, isSlot_exn, isSlot_slot, mAsg, gTp, gLs, gsCons, gsNil, gNm, mAug, tyD, kb_ii, kb_ib, kb_bi, kb_bb, kb_si, kb_ss, kb_tt, kb_ll, kb_tl, kb_sl, kb_dl, kb_il, kb_bl, mChain, mChain3, mSet, mSetOw, mRetN, mRaise, mDisp, noSlots, mDrop, mIter, mMeth, ofTy, mFor, forL, mPutF, mFld, putP, lookN, putN, flatB, flatD, max2D, min2D, mPart, mNoPart, mSl, orF, orC, gtD, ltD, leD, leI, geD, subI, addD_ii, modI, isN, isntN, mIfE, mNeg, mBreak, mCont, orE, boxed, ofStr_eq, mMake0, madeR, mOwn, methR, methC, backC, mCell, mSetKey, mSetIx, setL, mAugIx, mCall, mMake, madeC, mLc, mYes, wipeS, backS, backE, mMaxDf, intsD, mIsK, mFrz, frzS, size_le, size_lt, cleanL_append, mMut, appendU, cont_slotE, List.any, List.all, lenD, h2]
def wellD (a b c : Int) : D := .lst [.int a, .int b, .int c]
theorem p_law_well (c : Int) (cs : List D) : m_l_law_well [.int c] cs = .ok (.cell cs.length) (cs ++ [wellD (c * if (1000000000000000000 : Int) ≤ c then 1 else 0) (c % 2147483647) 0]) := by
  have hp : powI (.int 10) (.int 18) = some (.int 1000000000000000000) := (powI_ii (i := 10) (k := 18) (by decide) (by decide)).trans (by congr 2)
  have h1 := mulD_ii (okMul_r (i := c) (j := 1) (by omega) (by omega))
  have h0 := mulD_ii (okMul_r (i := c) (j := 0) (by omega) (by omega))
  unfold m_l_law_well b_l_law_well wellD
  by_cases h : (1000000000000000000 : Int) ≤ c
  · simp [runF, mSeq, mIf, mRet, mSkip, mVar, mC, mOp, mIsi, mNotV, mAndV, mOrV, mTest, mOr, mAnd, mNot, mCall0, lend_clean, back0, resD_clean, clean_non, clean_bl, clean_int, clean_str, clean_lst, clean_tup, clean_dct, clean_obj, cleanL_nil, cleanL_cons, mCons, mNil, ML.R.bind, ML.R.thenS, setS, lift2, cont_clean, cont_cell, cont_scr, cont_exn, contL, mCB, isSlot_clean, isSlot_cell, isSlot_exn, isSlot_slot, mAsg, gTp, gLs, gsCons, gsNil, gNm, mAug, tyD, kb_ii, kb_ib, kb_bi, kb_bb, kb_si, kb_ss, kb_tt, kb_ll, kb_tl, kb_sl, kb_dl, kb_il, kb_bl, mChain, mChain3, mSet, mSetOw, mRetN, mRaise, mDisp, noSlots, mDrop, mIter, mMeth, ofTy, mFor, forL, mPutF, mFld, putP, lookN, putN, flatB, flatD, max2D, min2D, mPart, mNoPart, mSl, orF, orC, gtD, ltD, leD, leI, geD, subI, addD_ii, modI, isN, isntN, mIfE, mNeg, mBreak, mCont, orE, boxed, ofStr_eq, mMake0, madeR, mOwn, methR, methC, backC, mCell, mSetKey, mSetIx, setL, mAugIx, mCall, mMake, madeC, mLc, mYes, wipeS, backS, backE, mMaxDf, intsD, mIsK, mFrz, frzS, size_le, size_lt, cleanL_append, mMut, appendU, cont_slotE, List.any, List.all, hp, h1, h, intD]
  · simp [runF, mSeq, mIf, mRet, mSkip, mVar, mC, mOp, mIsi, mNotV, mAndV, mOrV, mTest, mOr, mAnd, mNot, mCall0, lend_clean, back0, resD_clean, clean_non, clean_bl, clean_int, clean_str, clean_lst, clean_tup, clean_dct, clean_obj, cleanL_nil, cleanL_cons, mCons, mNil, ML.R.bind, ML.R.thenS, setS, lift2, cont_clean, cont_cell, cont_scr, cont_exn, contL, mCB, isSlot_clean, isSlot_cell, isSlot_exn, isSlot_slot, mAsg, gTp, gLs, gsCons, gsNil, gNm, mAug, tyD, kb_ii, kb_ib, kb_bi, kb_bb, kb_si, kb_ss, kb_tt, kb_ll, kb_tl, kb_sl, kb_dl, kb_il, kb_bl, mChain, mChain3, mSet, mSetOw, mRetN, mRaise, mDisp, noSlots, mDrop, mIter, mMeth, ofTy, mFor, forL, mPutF, mFld, putP, lookN, putN, flatB, flatD, max2D, min2D, mPart, mNoPart, mSl, orF, orC, gtD, ltD, leD, leI, geD, subI, addD_ii, modI, isN, isntN, mIfE, mNeg, mBreak, mCont, orE, boxed, ofStr_eq, mMake0, madeR, mOwn, methR, methC, backC, mCell, mSetKey, mSetIx, setL, mAugIx, mCall, mMake, madeC, mLc, mYes, wipeS, backS, backE, mMaxDf, intsD, mIsK, mFrz, frzS, size_le, size_lt, cleanL_append, mMut, appendU, cont_slotE, List.any, List.all, hp, h0, h, intD]
/-- the law's own fit is the program's -/
theorem p_law_fit (a b : Ho) (cs : List D) : m_l_law_fit [hoD a, hoD b] cs = .ok (.bl (togB a b)) cs := by
  unfold m_l_law_fit b_l_law_fit togB inB
  unfold hoD
  by_cases h1 : a.2.2 ≤ b.2.1 <;> by_cases h2 : b.2.2 ≤ a.2.1 <;> by_cases h3 : a.1 = b.1 <;> by_cases h4 : b.2.1 ≤ a.2.1 <;> by_cases h5 : a.2.2 ≤ b.2.2 <;> by_cases h6 : a.2.1 ≤ b.2.1 <;> by_cases h7 : b.2.2 ≤ a.2.2 <;>
    simp [runF, mSeq, mIf, mRet, mSkip, mVar, mC, mOp, mIsi, mNotV, mAndV, mOrV, mTest, mOr, mAnd, mNot, mCall0, lend_clean, back0, resD_clean, clean_non, clean_bl, clean_int, clean_str, clean_lst, clean_tup, clean_dct, clean_obj, cleanL_nil, cleanL_cons, mCons, mNil, ML.R.bind, ML.R.thenS, setS, lift2, cont_clean, cont_cell, cont_scr, cont_exn, contL, mCB, isSlot_clean, isSlot_cell, isSlot_exn, isSlot_slot, mAsg, gTp, gLs, gsCons, gsNil, gNm, mAug, tyD, kb_ii, kb_ib, kb_bi, kb_bb, kb_si, kb_ss, kb_tt, kb_ll, kb_tl, kb_sl, kb_dl, kb_il, kb_bl, mChain, mChain3, mSet, mSetOw, mRetN, mRaise, mDisp, noSlots, mDrop, mIter, mMeth, ofTy, mFor, forL, mPutF, mFld, putP, lookN, putN, flatB, flatD, max2D, min2D, mPart, mNoPart, mSl, orF, orC, gtD, ltD, leD, leI, geD, subI, addD_ii, modI, isN, isntN, mIfE, mNeg, mBreak, mCont, orE, boxed, ofStr_eq, mMake0, madeR, mOwn, methR, methC, backC, mCell, mSetKey, mSetIx, setL, mAugIx, mCall, mMake, madeC, mLc, mYes, wipeS, backS, backE, mMaxDf, intsD, mIsK, mFrz, frzS, size_le, size_lt, cleanL_append, mMut, appendU, cont_slotE, List.any, List.all, ix3_0, ix3_1, ix3_2, h1, h2, h3, h4, h5, h6, h7, ne_ss]
theorem p_draw {n : Nat} {cs : List D} {a b c many : Int} (h : cs[n]? = some (wellD a b c)) (hb : 0 ≤ b) (hb2 : b < 2147483647) (hc : 0 ≤ c) (hc2 : c ≤ 100000) (hm : 0 < many) (hm2 : many ≤ 1000000) :
    ∃ r a' c', 0 ≤ r ∧ r < many ∧ 0 ≤ c' ∧ c' ≤ c + 1 ∧ m_l_law_draw [.cell n, .int many] cs = .ok (.int r) (cs.set n (wellD a' b c')) := by
  obtain ⟨hl, h'⟩ := List.getElem?_eq_some_iff.mp h
  by_cases h0 : 0 < a
  · refine ⟨a % many, a / many, c, Int.emod_nonneg _ (by omega), Int.emod_lt_of_pos _ hm, hc, by omega, ?_⟩
    have hd := fdivI_ii (i := a) hm (by omega)
    have i0 : ∀ x y z : D, setL (.lst [x, y, z]) (.int 0) (.int (a / many)) = some (.lst [.int (a / many), y, z]) := fun _ _ _ => rfl
    unfold m_l_law_draw b_l_law_draw
    unfold wellD at h' ⊢
    simp [runF, mSeq, mIf, mRet, mSkip, mVar, mC, mOp, mIsi, mNotV, mAndV, mOrV, mTest, mOr, mAnd, mNot, mCall0, lend_clean, back0, resD_clean, clean_non, clean_bl, clean_int, clean_str, clean_lst, clean_tup, clean_dct, clean_obj, cleanL_nil, cleanL_cons, mCons, mNil, ML.R.bind, ML.R.thenS, setS, lift2, cont_clean, cont_cell, cont_scr, cont_exn, contL, mCB, isSlot_clean, isSlot_cell, isSlot_exn, isSlot_slot, mAsg, gTp, gLs, gsCons, gsNil, gNm, mAug, tyD, kb_ii, kb_ib, kb_bi, kb_bb, kb_si, kb_ss, kb_tt, kb_ll, kb_tl, kb_sl, kb_dl, kb_il, kb_bl, mChain, mChain3, mSet, mSetOw, mRetN, mRaise, mDisp, noSlots, mDrop, mIter, mMeth, ofTy, mFor, forL, mPutF, mFld, putP, lookN, putN, flatB, flatD, max2D, min2D, mPart, mNoPart, mSl, orF, orC, gtD, ltD, leD, leI, geD, subI, addD_ii, modI, isN, isntN, mIfE, mNeg, mBreak, mCont, orE, boxed, ofStr_eq, mMake0, madeR, mOwn, methR, methC, backC, mCell, mSetKey, mSetIx, setL, mAugIx, mCall, mMake, madeC, mLc, mYes, wipeS, backS, backE, mMaxDf, intsD, mIsK, mFrz, frzS, size_le, size_lt, cleanL_append, mMut, appendU, cont_slotE, List.any, List.all, h', hl, h0, ix3_0, hd, hm, show ∀ x y z : D, ixD (.lst [x, y, z]) (.int 0) = some x from fun _ _ _ => rfl, L2.ixN]
  · have hb3 : b ≤ 2147483646 := by omega
    have q1 := mulD_ii (okMul_l (i := 7919) (j := c + 1) (by omega) (by omega))
    have q2 : powI (.int (b + 7919 * (c + 1) + 1)) (.int 3) = some (.int ((b + 7919 * (c + 1) + 1) ^ 3)) := powI_ii (k := 3) (by omega) (by decide)
    obtain ⟨y, hy⟩ : ∃ y, y = (b + 7919 * (c + 1) + 1) ^ 3 % 2147483647 := ⟨_, rfl⟩
    have y0 : 0 ≤ y := by rw [hy]; exact Int.emod_nonneg _ (by omega)
    have y1 : y < 2147483647 := by rw [hy]; exact Int.emod_lt_of_pos _ (by omega)
    have f1 := fdivI_ii (i := y) (j := 1009) (by omega) (by omega)
    have q3 := mulD_ii (okMul_l (i := y) (j := y / 1009 + 69621) (by omega) (by omega))
    obtain ⟨z, hz⟩ : ∃ z, z = y * (y / 1009 + 69621) % 2147483629 := ⟨_, rfl⟩
    have z0 : 0 ≤ z := by rw [hz]; exact Int.emod_nonneg _ (by omega)
    have z1 : z < 2147483629 := by rw [hz]; exact Int.emod_lt_of_pos _ (by omega)
    have f2 := fdivI_ii (i := z) (j := 2003) (by omega) (by omega)
    have q4 := mulD_ii (okMul_l (i := z) (j := z / 2003 + 40692) (by omega) (by omega))
    refine ⟨z * (z / 2003 + 40692) % 2147483587 % many, a, c + 1, Int.emod_nonneg _ (by omega), Int.emod_lt_of_pos _ hm, by omega, by omega, ?_⟩
    unfold m_l_law_draw b_l_law_draw
    unfold wellD at h' ⊢
    have g0 : ∀ x y z : D, ixD (.lst [x, y, z]) (.int 0) = some x := fun _ _ _ => rfl
    have g1 : ∀ x y z : D, ixD (.lst [x, y, z]) (.int 1) = some y := fun _ _ _ => rfl
    have g2 : ∀ x y z : D, ixD (.lst [x, y, z]) (.int 2) = some z := fun _ _ _ => rfl
    simp [runF, mSeq, mIf, mRet, mSkip, mVar, mC, mOp, mIsi, mNotV, mAndV, mOrV, mTest, mOr, mAnd, mNot, mCall0, lend_clean, back0, resD_clean, clean_non, clean_bl, clean_int, clean_str, clean_lst, clean_tup, clean_dct, clean_obj, cleanL_nil, cleanL_cons, mCons, mNil, ML.R.bind, ML.R.thenS, setS, lift2, cont_clean, cont_cell, cont_scr, cont_exn, contL, mCB, isSlot_clean, isSlot_cell, isSlot_exn, isSlot_slot, mAsg, gTp, gLs, gsCons, gsNil, gNm, mAug, tyD, kb_ii, kb_ib, kb_bi, kb_bb, kb_si, kb_ss, kb_tt, kb_ll, kb_tl, kb_sl, kb_dl, kb_il, kb_bl, mChain, mChain3, mSet, mSetOw, mRetN, mRaise, mDisp, noSlots, mDrop, mIter, mMeth, ofTy, mFor, forL, mPutF, mFld, putP, lookN, putN, flatB, flatD, max2D, min2D, mPart, mNoPart, mSl, orF, orC, gtD, ltD, leD, leI, geD, subI, addD_ii, modI, isN, isntN, mIfE, mNeg, mBreak, mCont, orE, boxed, ofStr_eq, mMake0, madeR, mOwn, methR, methC, backC, mCell, mSetKey, mSetIx, setL, mAugIx, mCall, mMake, madeC, mLc, mYes, wipeS, backS, backE, mMaxDf, intsD, mIsK, mFrz, frzS, size_le, size_lt, cleanL_append, mMut, appendU, cont_slotE, List.any, List.all, h', hl, h0, g0, g1, g2, hm, L2.ixN, q1, q2, ← hy, f1, q3, ← hz, f2, q4]
/-- the well at n, of which k were drawn at most -/
def Well (k : Nat) (n : Nat) (cs : List D) : Prop := ∃ a b c, cs[n]? = some (wellD a b c) ∧ 0 ≤ b ∧ b < 2147483647 ∧ 0 ≤ c ∧ c ≤ k
theorem draw {k n : Nat} {cs : List D} {many : Int} (h : Well k n cs) (hk : k ≤ 100000) (hm : 0 < many) (hm2 : many ≤ 1000000) :
    ∃ r w, 0 ≤ r ∧ r < many ∧ Well (k + 1) n (cs.set n w) ∧ m_l_law_draw [.cell n, .int many] cs = .ok (.int r) (cs.set n w) := by
  obtain ⟨a, b, c, h, hb, hb2, hc, hc2⟩ := h
  obtain ⟨r, a', c', h1, h2, h3, h4, e⟩ := p_draw h hb hb2 hc (by omega) hm hm2
  refine ⟨r, wellD a' b c', h1, h2, ⟨a', b, c', ?_, hb, hb2, h3, by omega⟩, e⟩
  rw [List.getElem?_set_self (List.getElem?_eq_some_iff.mp h).1]
end K85
end
section
set_option Elab.async false
set_option linter.all false
set_option maxRecDepth 100000
set_option autoImplicit false
set_option maxHeartbeats 1000000
/-! K85q: words that are numbers, names; holds, works of any words. -/
namespace K85
open PySem ML
/-! ### signs -/
def dgB (c : Nat) : Bool := decide (48 ≤ c) && decide (c ≤ 57)
def lwB (c : Nat) : Bool := decide (97 ≤ c) && decide (c ≤ 122)
theorem in_dg (c : Nat) : inD true (.str ⟨#[c]⟩) (.str "0123456789") = some (.bl (!dgB c)) := by
  have e : (Str.ofString "0123456789").cps.toList = [48, 49, 50, 51, 52, 53, 54, 55, 56, 57] := by decide +kernel
  have h : decide (c ∈ (Str.ofString "0123456789").cps.toList) = dgB c := by
    rw [e]
    unfold dgB
    rw [Bool.eq_iff_iff]
    simp
    omega
  show some (D.bl (if true = true then !decide (c ∈ (Str.ofString "0123456789").cps.toList) else _)) = _
  rw [if_pos rfl, h]
theorem in_lw (c : Nat) : inD true (.str ⟨#[c]⟩) (.str "abcdefghijklmnopqrstuvwxyz") = some (.bl (!lwB c)) := by
  have e : (Str.ofString "abcdefghijklmnopqrstuvwxyz").cps.toList = [97, 98, 99, 100, 101, 102, 103, 104, 105, 106, 107, 108, 109, 110, 111, 112, 113, 114, 115, 116, 117, 118, 119, 120, 121, 122] := by decide +kernel
  have h : decide (c ∈ (Str.ofString "abcdefghijklmnopqrstuvwxyz").cps.toList) = lwB c := by
    rw [e]
    unfold lwB
    rw [Bool.eq_iff_iff]
    simp
    omega
  show some (D.bl (if true = true then !decide (c ∈ (Str.ofString "abcdefghijklmnopqrstuvwxyz").cps.toList) else _)) = _
  rw [if_pos rfl, h]
def isNum (w : Str) : Bool := (decide (1 ≤ w.length) && decide (w.length ≤ 60) && (TL.tl w).all dgB) && (decide (w = ("0" : Str)) || !Txt.startswith w "0")
def isNm (w : Str) : Bool := decide (1 ≤ w.length) && decide (w.length ≤ 8) && (TL.tl w).all lwB
theorem signs_map (w : Str) : signsD w = (TL.tl w).map fun c => D.str ⟨#[c]⟩ := rfl
/-- a walk over the signs that stops at one that is not p -/
theorem sign_loop {b : MS} {w : Str} {p : Nat → Bool} (hb : ∀ c, b ⟨[.fz (.str w), .fz (.str ⟨#[c]⟩)], []⟩ = if p c = true then .nx ⟨[.fz (.str w), .fz (.str ⟨#[c]⟩)], []⟩ else .rt (.bl false) ⟨[.fz (.str w), .fz (.str ⟨#[c]⟩)], []⟩) :
    ((TL.tl w).all p = true → ∃ s, forL (gNm 1) b (signsD w) ⟨[.fz (.str w), .no], []⟩ = .nx ⟨[.fz (.str w), s], []⟩) ∧ ((TL.tl w).all p = false → ∃ s, forL (gNm 1) b (signsD w) ⟨[.fz (.str w), .no], []⟩ = .rt (.bl false) ⟨s, []⟩) := by
  have key := forL_inv (g := gNm 1) (b := b) (fun c : Nat => D.str ⟨#[c]⟩) p (fun _ s => ∃ a, s = ⟨[.fz (.str w), a], []⟩) (fun f => ∃ s, f = .rt (.bl false) ⟨s, []⟩) (fun s => ⟨by simp, by simp, by simp⟩) (TL.tl w) [] ⟨[.fz (.str w), .no], []⟩ ⟨_, rfl⟩ fun c l r s e ⟨a, es⟩ => by
    subst es
    refine ⟨⟨[.fz (.str w), .fz (.str ⟨#[c]⟩)], []⟩, rfl, fun hp => ⟨_, .inl ((hb c).trans (if_pos hp)), _, rfl⟩, fun hp => ⟨_, (hb c).trans (if_neg (by rw [hp]; exact Bool.false_ne_true))⟩⟩
  rw [signs_map]
  refine ⟨fun h => ?_, fun h => key.2 h⟩
  obtain ⟨s2, e, a, rfl⟩ := key.1 h
  exact ⟨a, e⟩
theorem num_body (w : Str) (c : Nat) (a : List D) : b_is_number_1 ⟨[.fz (.str w), .fz (.str ⟨#[c]⟩)], a⟩ = if dgB c = true then .nx ⟨[.fz (.str w), .fz (.str ⟨#[c]⟩)], a⟩ else .rt (.bl false) ⟨[.fz (.str w), .fz (.str ⟨#[c]⟩)], a⟩ := by
  have h := in_dg c
  unfold b_is_number_1
  cases q : dgB c
  · rw [q] at h; simp [runF, mSeq, mIf, mRet, mSkip, mVar, mC, mOp, mIsi, mNotV, mAndV, mOrV, mTest, mOr, mAnd, mNot, mCall0, lend_clean, back0, resD_clean, clean_non, clean_bl, clean_int, clean_str, clean_lst, clean_tup, clean_dct, clean_obj, cleanL_nil, cleanL_cons, mCons, mNil, ML.R.bind, ML.R.thenS, setS, lift2, cont_clean, cont_cell, cont_scr, cont_exn, contL, mCB, isSlot_clean, isSlot_cell, isSlot_exn, isSlot_slot, mAsg, gTp, gLs, gsCons, gsNil, gNm, mAug, tyD, kb_ii, kb_ib, kb_bi, kb_bb, kb_si, kb_ss, kb_tt, kb_ll, kb_tl, kb_sl, kb_dl, kb_il, kb_bl, mChain, mChain3, mSet, mSetOw, mRetN, mRaise, mDisp, noSlots, mDrop, mIter, mMeth, ofTy, mFor, forL, mPutF, mFld, putP, lookN, putN, flatB, flatD, max2D, min2D, mPart, mNoPart, mSl, orF, orC, gtD, ltD, leD, leI, geD, subI, addD_ii, modI, isN, isntN, mIfE, mNeg, mBreak, mCont, orE, boxed, ofStr_eq, mMake0, madeR, mOwn, methR, methC, backC, mCell, mSetKey, mSetIx, setL, mAugIx, mCall, mMake, madeC, mLc, mYes, wipeS, backS, backE, mMaxDf, intsD, mIsK, mFrz, frzS, size_le, size_lt, cleanL_append, mMut, appendU, cont_slotE, List.any, List.all, h]
  · rw [q] at h; simp [runF, mSeq, mIf, mRet, mSkip, mVar, mC, mOp, mIsi, mNotV, mAndV, mOrV, mTest, mOr, mAnd, mNot, mCall0, lend_clean, back0, resD_clean, clean_non, clean_bl, clean_int, clean_str, clean_lst, clean_tup, clean_dct, clean_obj, cleanL_nil, cleanL_cons, mCons, mNil, ML.R.bind, ML.R.thenS, setS, lift2, cont_clean, cont_cell, cont_scr, cont_exn, contL, mCB, isSlot_clean, isSlot_cell, isSlot_exn, isSlot_slot, mAsg, gTp, gLs, gsCons, gsNil, gNm, mAug, tyD, kb_ii, kb_ib, kb_bi, kb_bb, kb_si, kb_ss, kb_tt, kb_ll, kb_tl, kb_sl, kb_dl, kb_il, kb_bl, mChain, mChain3, mSet, mSetOw, mRetN, mRaise, mDisp, noSlots, mDrop, mIter, mMeth, ofTy, mFor, forL, mPutF, mFld, putP, lookN, putN, flatB, flatD, max2D, min2D, mPart, mNoPart, mSl, orF, orC, gtD, ltD, leD, leI, geD, subI, addD_ii, modI, isN, isntN, mIfE, mNeg, mBreak, mCont, orE, boxed, ofStr_eq, mMake0, madeR, mOwn, methR, methC, backC, mCell, mSetKey, mSetIx, setL, mAugIx, mCall, mMake, madeC, mLc, mYes, wipeS, backS, backE, mMaxDf, intsD, mIsK, mFrz, frzS, size_le, size_lt, cleanL_append, mMut, appendU, cont_slotE, List.any, List.all, h]
theorem nm_body (w : Str) (c : Nat) (a : List D) : b_is_name_1 ⟨[.fz (.str w), .fz (.str ⟨#[c]⟩)], a⟩ = if lwB c = true then .nx ⟨[.fz (.str w), .fz (.str ⟨#[c]⟩)], a⟩ else .rt (.bl false) ⟨[.fz (.str w), .fz (.str ⟨#[c]⟩)], a⟩ := by
  have h := in_lw c
  unfold b_is_name_1
  cases q : lwB c
  · rw [q] at h; simp [runF, mSeq, mIf, mRet, mSkip, mVar, mC, mOp, mIsi, mNotV, mAndV, mOrV, mTest, mOr, mAnd, mNot, mCall0, lend_clean, back0, resD_clean, clean_non, clean_bl, clean_int, clean_str, clean_lst, clean_tup, clean_dct, clean_obj, cleanL_nil, cleanL_cons, mCons, mNil, ML.R.bind, ML.R.thenS, setS, lift2, cont_clean, cont_cell, cont_scr, cont_exn, contL, mCB, isSlot_clean, isSlot_cell, isSlot_exn, isSlot_slot, mAsg, gTp, gLs, gsCons, gsNil, gNm, mAug, tyD, kb_ii, kb_ib, kb_bi, kb_bb, kb_si, kb_ss, kb_tt, kb_ll, kb_tl, kb_sl, kb_dl, kb_il, kb_bl, mChain, mChain3, mSet, mSetOw, mRetN, mRaise, mDisp, noSlots, mDrop, mIter, mMeth, ofTy, mFor, forL, mPutF, mFld, putP, lookN, putN, flatB, flatD, max2D, min2D, mPart, mNoPart, mSl, orF, orC, gtD, ltD, leD, leI, geD, subI, addD_ii, modI, isN, isntN, mIfE, mNeg, mBreak, mCont, orE, boxed, ofStr_eq, mMake0, madeR, mOwn, methR, methC, backC, mCell, mSetKey, mSetIx, setL, mAugIx, mCall, mMake, madeC, mLc, mYes, wipeS, backS, backE, mMaxDf, intsD, mIsK, mFrz, frzS, size_le, size_lt, cleanL_append, mMut, appendU, cont_slotE, List.any, List.all, h]
  · rw [q] at h; simp [runF, mSeq, mIf, mRet, mSkip, mVar, mC, mOp, mIsi, mNotV, mAndV, mOrV, mTest, mOr, mAnd, mNot, mCall0, lend_clean, back0, resD_clean, clean_non, clean_bl, clean_int, clean_str, clean_lst, clean_tup, clean_dct, clean_obj, cleanL_nil, cleanL_cons, mCons, mNil, ML.R.bind, ML.R.thenS, setS, lift2, cont_clean, cont_cell, cont_scr, cont_exn, contL, mCB, isSlot_clean, isSlot_cell, isSlot_exn, isSlot_slot, mAsg, gTp, gLs, gsCons, gsNil, gNm, mAug, tyD, kb_ii, kb_ib, kb_bi, kb_bb, kb_si, kb_ss, kb_tt, kb_ll, kb_tl, kb_sl, kb_dl, kb_il, kb_bl, mChain, mChain3, mSet, mSetOw, mRetN, mRaise, mDisp, noSlots, mDrop, mIter, mMeth, ofTy, mFor, forL, mPutF, mFld, putP, lookN, putN, flatB, flatD, max2D, min2D, mPart, mNoPart, mSl, orF, orC, gtD, ltD, leD, leI, geD, subI, addD_ii, modI, isN, isntN, mIfE, mNeg, mBreak, mCont, orE, boxed, ofStr_eq, mMake0, madeR, mOwn, methR, methC, backC, mCell, mSetKey, mSetIx, setL, mAugIx, mCall, mMake, madeC, mLc, mYes, wipeS, backS, backE, mMaxDf, intsD, mIsK, mFrz, frzS, size_le, size_lt, cleanL_append, mMut, appendU, cont_slotE, List.any, List.all, h]
theorem p_isnum {w : Str} (hl : w.length ≤ 100000) : m_is_number [.str w] [] = .ok (.bl (isNum w)) [] := by
  have key := sign_loop (w := w) (b := b_is_number_1) (p := dgB) fun c => num_body w c []
  have hsz := sizeLine_ge
  have h3 : w.length ≤ PySem.sizeLine := by omega
  unfold isNum m_is_number b_is_number
  by_cases h1 : 1 ≤ w.length
  · by_cases h2 : w.length ≤ 60
    · have i1 : (1 : Int) ≤ (w.length : Int) := by omega
      have i2 : (w.length : Int) ≤ 60 := by omega
      cases hp : (TL.tl w).all dgB with
      | false =>
        obtain ⟨s, e⟩ := key.2 hp
        simp [runF, mSeq, mIf, mRet, mSkip, mVar, mC, mOp, mIsi, mNotV, mAndV, mOrV, mTest, mOr, mAnd, mNot, mCall0, lend_clean, back0, resD_clean, clean_non, clean_bl, clean_int, clean_str, clean_lst, clean_tup, clean_dct, clean_obj, cleanL_nil, cleanL_cons, mCons, mNil, ML.R.bind, ML.R.thenS, setS, lift2, cont_clean, cont_cell, cont_scr, cont_exn, contL, mCB, isSlot_clean, isSlot_cell, isSlot_exn, isSlot_slot, mAsg, gTp, gLs, gsCons, gsNil, gNm, mAug, tyD, kb_ii, kb_ib, kb_bi, kb_bb, kb_si, kb_ss, kb_tt, kb_ll, kb_tl, kb_sl, kb_dl, kb_il, kb_bl, mChain, mChain3, mSet, mSetOw, mRetN, mRaise, mDisp, noSlots, mDrop, mIter, mMeth, ofTy, mFor, forL, mPutF, mFld, putP, lookN, putN, flatB, flatD, max2D, min2D, mPart, mNoPart, mSl, orF, orC, gtD, ltD, leD, leI, geD, subI, addD_ii, modI, isN, isntN, mIfE, mNeg, mBreak, mCont, orE, boxed, ofStr_eq, mMake0, madeR, mOwn, methR, methC, backC, mCell, mSetKey, mSetIx, setL, mAugIx, mCall, mMake, madeC, mLc, mYes, wipeS, backS, backE, mMaxDf, intsD, mIsK, mFrz, frzS, size_le, size_lt, cleanL_append, mMut, appendU, cont_slotE, List.any, List.all, lenD, i1, i2, h3, e, h1, h2]
      | true =>
        obtain ⟨s, e⟩ := key.1 hp
        by_cases h0 : w = ("0" : Str)
        · subst h0
          simp [runF, mSeq, mIf, mRet, mSkip, mVar, mC, mOp, mIsi, mNotV, mAndV, mOrV, mTest, mOr, mAnd, mNot, mCall0, lend_clean, back0, resD_clean, clean_non, clean_bl, clean_int, clean_str, clean_lst, clean_tup, clean_dct, clean_obj, cleanL_nil, cleanL_cons, mCons, mNil, ML.R.bind, ML.R.thenS, setS, lift2, cont_clean, cont_cell, cont_scr, cont_exn, contL, mCB, isSlot_clean, isSlot_cell, isSlot_exn, isSlot_slot, mAsg, gTp, gLs, gsCons, gsNil, gNm, mAug, tyD, kb_ii, kb_ib, kb_bi, kb_bb, kb_si, kb_ss, kb_tt, kb_ll, kb_tl, kb_sl, kb_dl, kb_il, kb_bl, mChain, mChain3, mSet, mSetOw, mRetN, mRaise, mDisp, noSlots, mDrop, mIter, mMeth, ofTy, mFor, forL, mPutF, mFld, putP, lookN, putN, flatB, flatD, max2D, min2D, mPart, mNoPart, mSl, orF, orC, gtD, ltD, leD, leI, geD, subI, addD_ii, modI, isN, isntN, mIfE, mNeg, mBreak, mCont, orE, boxed, ofStr_eq, mMake0, madeR, mOwn, methR, methC, backC, mCell, mSetKey, mSetIx, setL, mAugIx, mCall, mMake, madeC, mLc, mYes, wipeS, backS, backE, mMaxDf, intsD, mIsK, mFrz, frzS, size_le, size_lt, cleanL_append, mMut, appendU, cont_slotE, List.any, List.all, lenD, i1, i2, h3, e, h1, h2, hp, eq_ss, startsD]
        · cases hs : Txt.startswith w "0" <;> simp [runF, mSeq, mIf, mRet, mSkip, mVar, mC, mOp, mIsi, mNotV, mAndV, mOrV, mTest, mOr, mAnd, mNot, mCall0, lend_clean, back0, resD_clean, clean_non, clean_bl, clean_int, clean_str, clean_lst, clean_tup, clean_dct, clean_obj, cleanL_nil, cleanL_cons, mCons, mNil, ML.R.bind, ML.R.thenS, setS, lift2, cont_clean, cont_cell, cont_scr, cont_exn, contL, mCB, isSlot_clean, isSlot_cell, isSlot_exn, isSlot_slot, mAsg, gTp, gLs, gsCons, gsNil, gNm, mAug, tyD, kb_ii, kb_ib, kb_bi, kb_bb, kb_si, kb_ss, kb_tt, kb_ll, kb_tl, kb_sl, kb_dl, kb_il, kb_bl, mChain, mChain3, mSet, mSetOw, mRetN, mRaise, mDisp, noSlots, mDrop, mIter, mMeth, ofTy, mFor, forL, mPutF, mFld, putP, lookN, putN, flatB, flatD, max2D, min2D, mPart, mNoPart, mSl, orF, orC, gtD, ltD, leD, leI, geD, subI, addD_ii, modI, isN, isntN, mIfE, mNeg, mBreak, mCont, orE, boxed, ofStr_eq, mMake0, madeR, mOwn, methR, methC, backC, mCell, mSetKey, mSetIx, setL, mAugIx, mCall, mMake, madeC, mLc, mYes, wipeS, backS, backE, mMaxDf, intsD, mIsK, mFrz, frzS, size_le, size_lt, cleanL_append, mMut, appendU, cont_slotE, List.any, List.all, lenD, i1, i2, h3, e, h1, h2, eq_ss, startsD, h0, hs]
    · have i1 : (1 : Int) ≤ (w.length : Int) := by omega
      have i2 : ¬ (w.length : Int) ≤ 60 := by omega
      simp [runF, mSeq, mIf, mRet, mSkip, mVar, mC, mOp, mIsi, mNotV, mAndV, mOrV, mTest, mOr, mAnd, mNot, mCall0, lend_clean, back0, resD_clean, clean_non, clean_bl, clean_int, clean_str, clean_lst, clean_tup, clean_dct, clean_obj, cleanL_nil, cleanL_cons, mCons, mNil, ML.R.bind, ML.R.thenS, setS, lift2, cont_clean, cont_cell, cont_scr, cont_exn, contL, mCB, isSlot_clean, isSlot_cell, isSlot_exn, isSlot_slot, mAsg, gTp, gLs, gsCons, gsNil, gNm, mAug, tyD, kb_ii, kb_ib, kb_bi, kb_bb, kb_si, kb_ss, kb_tt, kb_ll, kb_tl, kb_sl, kb_dl, kb_il, kb_bl, mChain, mChain3, mSet, mSetOw, mRetN, mRaise, mDisp, noSlots, mDrop, mIter, mMeth, ofTy, mFor, forL, mPutF, mFld, putP, lookN, putN, flatB, flatD, max2D, min2D, mPart, mNoPart, mSl, orF, orC, gtD, ltD, leD, leI, geD, subI, addD_ii, modI, isN, isntN, mIfE, mNeg, mBreak, mCont, orE, boxed, ofStr_eq, mMake0, madeR, mOwn, methR, methC, backC, mCell, mSetKey, mSetIx, setL, mAugIx, mCall, mMake, madeC, mLc, mYes, wipeS, backS, backE, mMaxDf, intsD, mIsK, mFrz, frzS, size_le, size_lt, cleanL_append, mMut, appendU, cont_slotE, List.any, List.all, lenD, h3, i1, i2, h1, h2]
  · have i1 : ¬ (1 : Int) ≤ (w.length : Int) := by omega
    simp [runF, mSeq, mIf, mRet, mSkip, mVar, mC, mOp, mIsi, mNotV, mAndV, mOrV, mTest, mOr, mAnd, mNot, mCall0, lend_clean, back0, resD_clean, clean_non, clean_bl, clean_int, clean_str, clean_lst, clean_tup, clean_dct, clean_obj, cleanL_nil, cleanL_cons, mCons, mNil, ML.R.bind, ML.R.thenS, setS, lift2, cont_clean, cont_cell, cont_scr, cont_exn, contL, mCB, isSlot_clean, isSlot_cell, isSlot_exn, isSlot_slot, mAsg, gTp, gLs, gsCons, gsNil, gNm, mAug, tyD, kb_ii, kb_ib, kb_bi, kb_bb, kb_si, kb_ss, kb_tt, kb_ll, kb_tl, kb_sl, kb_dl, kb_il, kb_bl, mChain, mChain3, mSet, mSetOw, mRetN, mRaise, mDisp, noSlots, mDrop, mIter, mMeth, ofTy, mFor, forL, mPutF, mFld, putP, lookN, putN, flatB, flatD, max2D, min2D, mPart, mNoPart, mSl, orF, orC, gtD, ltD, leD, leI, geD, subI, addD_ii, modI, isN, isntN, mIfE, mNeg, mBreak, mCont, orE, boxed, ofStr_eq, mMake0, madeR, mOwn, methR, methC, backC, mCell, mSetKey, mSetIx, setL, mAugIx, mCall, mMake, madeC, mLc, mYes, wipeS, backS, backE, mMaxDf, intsD, mIsK, mFrz, frzS, size_le, size_lt, cleanL_append, mMut, appendU, cont_slotE, List.any, List.all, lenD, h3, i1, h1]
theorem p_isnm {w : Str} (hl : w.length ≤ 100000) (cs : List D) : m_is_name [.str w] [] = .ok (.bl (isNm w)) [] := by
  have key := sign_loop (w := w) (b := b_is_name_1) (p := lwB) fun c => nm_body w c []
  have hsz := sizeLine_ge
  have h3 : w.length ≤ PySem.sizeLine := by omega
  unfold isNm m_is_name b_is_name
  by_cases h1 : 1 ≤ w.length
  · by_cases h2 : w.length ≤ 8
    · have i1 : (1 : Int) ≤ (w.length : Int) := by omega
      have i2 : (w.length : Int) ≤ 8 := by omega
      cases hp : (TL.tl w).all lwB with
      | false =>
        obtain ⟨s, e⟩ := key.2 hp
        simp [runF, mSeq, mIf, mRet, mSkip, mVar, mC, mOp, mIsi, mNotV, mAndV, mOrV, mTest, mOr, mAnd, mNot, mCall0, lend_clean, back0, resD_clean, clean_non, clean_bl, clean_int, clean_str, clean_lst, clean_tup, clean_dct, clean_obj, cleanL_nil, cleanL_cons, mCons, mNil, ML.R.bind, ML.R.thenS, setS, lift2, cont_clean, cont_cell, cont_scr, cont_exn, contL, mCB, isSlot_clean, isSlot_cell, isSlot_exn, isSlot_slot, mAsg, gTp, gLs, gsCons, gsNil, gNm, mAug, tyD, kb_ii, kb_ib, kb_bi, kb_bb, kb_si, kb_ss, kb_tt, kb_ll, kb_tl, kb_sl, kb_dl, kb_il, kb_bl, mChain, mChain3, mSet, mSetOw, mRetN, mRaise, mDisp, noSlots, mDrop, mIter, mMeth, ofTy, mFor, forL, mPutF, mFld, putP, lookN, putN, flatB, flatD, max2D, min2D, mPart, mNoPart, mSl, orF, orC, gtD, ltD, leD, leI, geD, subI, addD_ii, modI, isN, isntN, mIfE, mNeg, mBreak, mCont, orE, boxed, ofStr_eq, mMake0, madeR, mOwn, methR, methC, backC, mCell, mSetKey, mSetIx, setL, mAugIx, mCall, mMake, madeC, mLc, mYes, wipeS, backS, backE, mMaxDf, intsD, mIsK, mFrz, frzS, size_le, size_lt, cleanL_append, mMut, appendU, cont_slotE, List.any, List.all, lenD, i1, i2, h3, e, h1, h2]
      | true =>
        obtain ⟨s, e⟩ := key.1 hp
        simp [runF, mSeq, mIf, mRet, mSkip, mVar, mC, mOp, mIsi, mNotV, mAndV, mOrV, mTest, mOr, mAnd, mNot, mCall0, lend_clean, back0, resD_clean, clean_non, clean_bl, clean_int, clean_str, clean_lst, clean_tup, clean_dct, clean_obj, cleanL_nil, cleanL_cons, mCons, mNil, ML.R.bind, ML.R.thenS, setS, lift2, cont_clean, cont_cell, cont_scr, cont_exn, contL, mCB, isSlot_clean, isSlot_cell, isSlot_exn, isSlot_slot, mAsg, gTp, gLs, gsCons, gsNil, gNm, mAug, tyD, kb_ii, kb_ib, kb_bi, kb_bb, kb_si, kb_ss, kb_tt, kb_ll, kb_tl, kb_sl, kb_dl, kb_il, kb_bl, mChain, mChain3, mSet, mSetOw, mRetN, mRaise, mDisp, noSlots, mDrop, mIter, mMeth, ofTy, mFor, forL, mPutF, mFld, putP, lookN, putN, flatB, flatD, max2D, min2D, mPart, mNoPart, mSl, orF, orC, gtD, ltD, leD, leI, geD, subI, addD_ii, modI, isN, isntN, mIfE, mNeg, mBreak, mCont, orE, boxed, ofStr_eq, mMake0, madeR, mOwn, methR, methC, backC, mCell, mSetKey, mSetIx, setL, mAugIx, mCall, mMake, madeC, mLc, mYes, wipeS, backS, backE, mMaxDf, intsD, mIsK, mFrz, frzS, size_le, size_lt, cleanL_append, mMut, appendU, cont_slotE, List.any, List.all, lenD, i1, i2, h3, e, h1, h2]
    · have i1 : (1 : Int) ≤ (w.length : Int) := by omega
      have i2 : ¬ (w.length : Int) ≤ 8 := by omega
      simp [runF, mSeq, mIf, mRet, mSkip, mVar, mC, mOp, mIsi, mNotV, mAndV, mOrV, mTest, mOr, mAnd, mNot, mCall0, lend_clean, back0, resD_clean, clean_non, clean_bl, clean_int, clean_str, clean_lst, clean_tup, clean_dct, clean_obj, cleanL_nil, cleanL_cons, mCons, mNil, ML.R.bind, ML.R.thenS, setS, lift2, cont_clean, cont_cell, cont_scr, cont_exn, contL, mCB, isSlot_clean, isSlot_cell, isSlot_exn, isSlot_slot, mAsg, gTp, gLs, gsCons, gsNil, gNm, mAug, tyD, kb_ii, kb_ib, kb_bi, kb_bb, kb_si, kb_ss, kb_tt, kb_ll, kb_tl, kb_sl, kb_dl, kb_il, kb_bl, mChain, mChain3, mSet, mSetOw, mRetN, mRaise, mDisp, noSlots, mDrop, mIter, mMeth, ofTy, mFor, forL, mPutF, mFld, putP, lookN, putN, flatB, flatD, max2D, min2D, mPart, mNoPart, mSl, orF, orC, gtD, ltD, leD, leI, geD, subI, addD_ii, modI, isN, isntN, mIfE, mNeg, mBreak, mCont, orE, boxed, ofStr_eq, mMake0, madeR, mOwn, methR, methC, backC, mCell, mSetKey, mSetIx, setL, mAugIx, mCall, mMake, madeC, mLc, mYes, wipeS, backS, backE, mMaxDf, intsD, mIsK, mFrz, frzS, size_le, size_lt, cleanL_append, mMut, appendU, cont_slotE, List.any, List.all, lenD, h3, i1, i2, h1, h2]
  · have i1 : ¬ (1 : Int) ≤ (w.length : Int) := by omega
    simp [runF, mSeq, mIf, mRet, mSkip, mVar, mC, mOp, mIsi, mNotV, mAndV, mOrV, mTest, mOr, mAnd, mNot, mCall0, lend_clean, back0, resD_clean, clean_non, clean_bl, clean_int, clean_str, clean_lst, clean_tup, clean_dct, clean_obj, cleanL_nil, cleanL_cons, mCons, mNil, ML.R.bind, ML.R.thenS, setS, lift2, cont_clean, cont_cell, cont_scr, cont_exn, contL, mCB, isSlot_clean, isSlot_cell, isSlot_exn, isSlot_slot, mAsg, gTp, gLs, gsCons, gsNil, gNm, mAug, tyD, kb_ii, kb_ib, kb_bi, kb_bb, kb_si, kb_ss, kb_tt, kb_ll, kb_tl, kb_sl, kb_dl, kb_il, kb_bl, mChain, mChain3, mSet, mSetOw, mRetN, mRaise, mDisp, noSlots, mDrop, mIter, mMeth, ofTy, mFor, forL, mPutF, mFld, putP, lookN, putN, flatB, flatD, max2D, min2D, mPart, mNoPart, mSl, orF, orC, gtD, ltD, leD, leI, geD, subI, addD_ii, modI, isN, isntN, mIfE, mNeg, mBreak, mCont, orE, boxed, ofStr_eq, mMake0, madeR, mOwn, methR, methC, backC, mCell, mSetKey, mSetIx, setL, mAugIx, mCall, mMake, madeC, mLc, mYes, wipeS, backS, backE, mMaxDf, intsD, mIsK, mFrz, frzS, size_le, size_lt, cleanL_append, mMut, appendU, cont_slotE, List.any, List.all, lenD, h3, i1, h1]
theorem inD_bools (neg : Bool) (bs : List Bool) : inD neg (.bl false) (.lst (bs.map D.bl)) = some (.bl (if neg then bs.all id else !bs.all id)) := by
  have h1 : ∀ bs : List Bool, (bs.map D.bl).all flatB = true := fun bs => by
    induction bs with
    | nil => rfl
    | cons b bs ih => rw [List.map_cons, List.all_cons, ih]; rfl
  have h2 : ∀ bs : List Bool, inF (.bl false) (bs.map D.bl) = !bs.all id := fun bs => by
    induction bs with
    | nil => rfl
    | cons b bs ih =>
      unfold inF at ih ⊢
      rw [List.map_cons, List.any_cons, ih, List.all_cons]
      cases b <;> rfl
  show (match inSg neg (.bl false) (.lst (bs.map D.bl)) with | some d => some d | none => (orF (inSq neg) (inDc neg)) (.bl false) (.lst (bs.map D.bl))) = _
  have e0 : inSg neg (.bl false) (.lst (bs.map D.bl)) = none := rfl
  have e1 : inSq neg (.bl false) (.lst (bs.map D.bl)) = some (.bl (if neg then bs.all id else !bs.all id)) := by
    unfold inSq
    simp only []
    rw [h1, h2]
    cases neg <;> simp [flatB, flatD]
  rw [e0]
  show (match inSq neg (.bl false) (.lst (bs.map D.bl)) with | some d => some d | none => _) = _
  rw [e1]
theorem cleanL_bools : ∀ bs : List Bool, cleanL (bs.map D.bl) = true
  | [] => Eq.trans rfl rfl
  | b :: bs => by rw [List.map_cons, cleanL_cons, clean_bl, cleanL_bools bs] <;> rfl
/-! ### the number of a word -/
theorem starts0 (w : Str) : Txt.startswith w "0" = decide ((TL.tl w)[0]? = some 48) := by
  have e : (Str.ofString "0") = (⟨#[48]⟩ : Str) := by decide +kernel
  have h := StrLaws.subAt_one w 48 0
  unfold Txt.startswith
  rw [e, Bool.eq_iff_iff]
  simp only [Bool.and_eq_true, decide_eq_true_eq]
  exact h
theorem canon (l : List Nat) : l ≠ [] → l.all dgB = true → (l = [48] ∨ l[0]? ≠ some 48) → ∃ n, TL.numL n = l ∧ (l ≠ [48] → 0 < n) := by
  induction h : l.length using Nat.strongRecOn generalizing l with
  | ind m ih =>
    intro hne hd h0
    rcases List.eq_nil_or_concat l with z | ⟨l', c, rfl⟩
    · exact absurd z hne
    · have hc : dgB c = true := by
        rw [List.all_eq_true] at hd
        exact hd c (by simp)
      unfold dgB at hc
      simp only [Bool.and_eq_true, decide_eq_true_eq] at hc
      cases l' with
      | nil =>
        refine ⟨c - 48, ?_, fun z => ?_⟩
        · rw [TL.numL_lt (by omega)]
          show [48 + (c - 48)] = [c]
          rw [Nat.add_sub_cancel' hc.1]
        · have : c ≠ 48 := fun e => z (by rw [e]; rfl)
          omega
      | cons a t =>
        have h1 : (a :: t)[0]? ≠ some 48 := by
          rcases h0 with z | z
          · simp at z
          · simpa using z
        have hd' : (a :: t).all dgB = true := by
          rw [List.all_eq_true] at hd ⊢
          intro x hx
          exact hd x (by simp at hx ⊢; rcases hx with z | z <;> simp [z])
        have hn48 : a :: t ≠ [48] := fun z => h1 (by rw [z]; rfl)
        obtain ⟨n, e1, e2⟩ := ih (a :: t).length (by rw [← h]; simp) (a :: t) rfl (by simp) hd' (.inr h1)
        have hp := e2 hn48
        refine ⟨10 * n + (c - 48), ?_, fun _ => by omega⟩
        rw [TL.numL_step (by omega), show (10 * n + (c - 48)) / 10 = n by omega, show (10 * n + (c - 48)) % 10 = c - 48 by omega, e1, Nat.add_sub_cancel' hc.1]
        simp
theorem isNum_iff (w : Str) : isNum w = true ↔ ∃ n, w = numS n ∧ (TL.numL n).length ≤ 60 := by
  constructor
  · intro h
    unfold isNum at h
    rw [starts0] at h
    simp only [Bool.and_eq_true, Bool.or_eq_true, decide_eq_true_eq, Bool.not_eq_true', decide_eq_false_iff_not] at h
    obtain ⟨⟨⟨h1, h2⟩, h3⟩, h4⟩ := h
    rw [TL.len_tl] at h1 h2
    have hz : TL.tl w = [48] ∨ (TL.tl w)[0]? ≠ some 48 := by
      rcases h4 with z | z
      · left
        rw [z]
        decide +kernel
      · exact .inr z
    obtain ⟨n, e, _⟩ := canon (TL.tl w) (fun z => by rw [z] at h1; simp at h1) h3 hz
    exact ⟨n, TL.ext_tl (e.symm.trans (tl_numS n).symm), by rw [e]; exact h2⟩
  · rintro ⟨n, rfl, hl⟩
    have h1 := p_is_number hl
    have h2 := p_isnum (w := numS n) (by rw [len_numS]; omega)
    rw [h1] at h2
    simpa using h2
noncomputable def num (w : Str) : Option Nat := by
  classical
  exact if h : ∃ n, w = numS n ∧ (TL.numL n).length ≤ 60 then some h.choose else none
theorem num_some {w : Str} {n : Nat} (h : num w = some n) : w = numS n ∧ (TL.numL n).length ≤ 60 := by
  unfold num at h
  split at h
  · next hx =>
    cases h
    exact hx.choose_spec
  · cases h
theorem num_none {w : Str} (h : num w = none) : isNum w = false := by
  cases q : isNum w with
  | false => rfl
  | true =>
    have hx := (isNum_iff w).mp q
    unfold num at h
    rw [dif_pos hx] at h
    cases h
theorem num_isSome {w : Str} {n : Nat} (h : num w = some n) : isNum w = true := (isNum_iff w).mpr ⟨n, num_some h⟩
theorem num_numS {n : Nat} (h : (TL.numL n).length ≤ 60) : num (numS n) = some n := by
  have hx : ∃ m, numS n = numS m ∧ (TL.numL m).length ≤ 60 := ⟨n, rfl, h⟩
  have e := hx.choose_spec.1
  have e2 : TL.numL n = TL.numL hx.choose := by rw [← tl_numS, ← tl_numS, ← e]
  unfold num
  rw [dif_pos hx, ← TL.numL_inj e2]
def numR : Option Nat → Rt
  | some n => .ok (.int (n : Nat)) []
  | none => .exc ⟨3, [], []⟩ []
theorem p_num {w : Str} (hl : w.length ≤ 100000) : m_number_in [.str w] [] = numR (num w) := by
  cases h : num w with
  | some n =>
    obtain ⟨rfl, h2⟩ := num_some h
    exact p_number_in h2
  | none =>
    have h1 := p_isnum hl
    rw [num_none h] at h1
    unfold m_number_in b_number_in numR
    simp [runF, mSeq, mIf, mRet, mSkip, mVar, mC, mOp, mIsi, mNotV, mAndV, mOrV, mTest, mOr, mAnd, mNot, mCall0, lend_clean, back0, resD_clean, clean_non, clean_bl, clean_int, clean_str, clean_lst, clean_tup, clean_dct, clean_obj, cleanL_nil, cleanL_cons, mCons, mNil, ML.R.bind, ML.R.thenS, setS, lift2, cont_clean, cont_cell, cont_scr, cont_exn, contL, mCB, isSlot_clean, isSlot_cell, isSlot_exn, isSlot_slot, mAsg, gTp, gLs, gsCons, gsNil, gNm, mAug, tyD, kb_ii, kb_ib, kb_bi, kb_bb, kb_si, kb_ss, kb_tt, kb_ll, kb_tl, kb_sl, kb_dl, kb_il, kb_bl, mChain, mChain3, mSet, mSetOw, mRetN, mRaise, mDisp, noSlots, mDrop, mIter, mMeth, ofTy, mFor, forL, mPutF, mFld, putP, lookN, putN, flatB, flatD, max2D, min2D, mPart, mNoPart, mSl, orF, orC, gtD, ltD, leD, leI, geD, subI, addD_ii, modI, isN, isntN, mIfE, mNeg, mBreak, mCont, orE, boxed, ofStr_eq, mMake0, madeR, mOwn, methR, methC, backC, mCell, mSetKey, mSetIx, setL, mAugIx, mCall, mMake, madeC, mLc, mYes, wipeS, backS, backE, mMaxDf, intsD, mIsK, mFrz, frzS, size_le, size_lt, cleanL_append, mMut, appendU, cont_slotE, List.any, List.all, h1]
/-! ### the law's number, its name -/
def Asc (w : Str) : Prop := ∀ c ∈ TL.tl w, c < 1000
theorem ok_sign {c : Nat} (h : c < 1000) : PyData.strOk ⟨#[c]⟩ = true := by
  unfold PyData.strOk
  simp
  omega
theorem ne_signs (cs : List Nat) (h : ∀ c ∈ cs, c < 1000) : neD (.lst (cs.map fun c => D.str ⟨#[c]⟩)) (.lst []) = some (.bl (!cs.isEmpty)) := by
  have hp : ∃ ps, toPyL (cs.map fun c => D.str ⟨#[c]⟩) = some ps ∧ PyData.canLayAll0 ps = true ∧ PyData.depthAll ps = 0 ∧ ps.isEmpty = cs.isEmpty := by
    induction cs with
    | nil => exact ⟨[], rfl, rfl, by simp [PyData.depthAll], rfl⟩
    | cons c cs ih =>
      obtain ⟨ps, h1, h2, h3, _⟩ := ih fun x hx => h x (List.mem_cons_of_mem _ hx)
      refine ⟨.str ⟨#[c]⟩ :: ps, ?_, ?_, ?_, rfl⟩
      · show (match toPy (D.str ⟨#[c]⟩), toPyL (cs.map fun c => D.str ⟨#[c]⟩) with | some p, some ps => some (p :: ps) | _, _ => none) = _
        rw [h1]
        rfl
      · rw [PyData.canLayAll0, PyData.canLay0, ok_sign (h c List.mem_cons_self), h2]
        rfl
      · simp only [PyData.depthAll, PyData.depth, h3]
        rfl
  obtain ⟨ps, h1, h2, h3, h4⟩ := hp
  have hp : toPy (.lst (cs.map fun c => D.str ⟨#[c]⟩)) = some (.list ps) := by
    show (match toPyL (cs.map fun c => D.str ⟨#[c]⟩) with | some ps => some (PyData.list ps) | none => none) = _
    rw [h1]
  have hs : SeqAt.shaped (.list ps) = true := by
    unfold SeqAt.shaped
    simp only [PyData.canLay0, PyData.depth, h2, h3]
    rfl
  have hs0 : SeqAt.shaped (.list []) = true := by decide +kernel
  have he : PyData.eqv (.list ps) (.list []) = cs.isEmpty := by
    rw [← h4]
    cases ps <;> simp [PyData.eqv, PyData.eqvAll]
  have e0 : scalD (.lst (cs.map fun c => D.str ⟨#[c]⟩)) (.lst []) = none := rfl
  have e1 : toPy (.lst []) = some (.list []) := rfl
  unfold neD eqB
  rw [e0]
  simp only [hp, e1, hs, hs0, he, Bool.and_self, if_true]
theorem filt_empty (p : Nat → Bool) : ∀ l : List Nat, (l.filter fun c => !p c).isEmpty = l.all p
  | [] => rfl
  | c :: l => by
    have ih := filt_empty p l
    cases h : p c <;> simp [List.filter_cons, h, ih]
theorem p_law_number {w : Str} (hl : w.length ≤ 100000) (ha : Asc w) : m_l_law_number [.str w] [] = .ok (match num w with | some n => .int (n : Nat) | none => .non) [] := by
  have hsz := sizeLine_ge
  have h3 : w.length ≤ PySem.sizeLine := by omega
  have hn : num w = none ↔ isNum w = false := ⟨num_none, fun h => by
    cases q : num w with
    | none => rfl
    | some n => rw [num_isSome q] at h; cases h⟩
  have hlc := lcL_if (g := gNm 1) (mt := mTest (mOp (inD true) (mVar 1) (mC (.str "0123456789")))) (me := mVar 1) (vs := [1]) (fun c : Nat => D.str ⟨#[c]⟩) (fun c : Nat => D.str ⟨#[c]⟩) (fun c => !dgB c) ⟨[.fz (.str w), .no], []⟩ (TL.tl w) [] (by rw [← TL.len_tl]; simp; omega) fun c hc => by
    have h := in_dg c
    refine ⟨⟨[.fz (.str w), .fz (.str ⟨#[c]⟩)], []⟩, ⟨[.fz (.str w), .fz (.str ⟨#[c]⟩)], []⟩, ⟨[.fz (.str w), .fz (.str ⟨#[c]⟩)], []⟩, rfl, ?_, rfl, fun _ => ⟨rfl, rfl, rfl⟩⟩
    simp [runF, mSeq, mIf, mRet, mSkip, mVar, mC, mOp, mIsi, mNotV, mAndV, mOrV, mTest, mOr, mAnd, mNot, mCall0, lend_clean, back0, resD_clean, clean_non, clean_bl, clean_int, clean_str, clean_lst, clean_tup, clean_dct, clean_obj, cleanL_nil, cleanL_cons, mCons, mNil, ML.R.bind, ML.R.thenS, setS, lift2, cont_clean, cont_cell, cont_scr, cont_exn, contL, mCB, isSlot_clean, isSlot_cell, isSlot_exn, isSlot_slot, mAsg, gTp, gLs, gsCons, gsNil, gNm, mAug, tyD, kb_ii, kb_ib, kb_bi, kb_bb, kb_si, kb_ss, kb_tt, kb_ll, kb_tl, kb_sl, kb_dl, kb_il, kb_bl, mChain, mChain3, mSet, mSetOw, mRetN, mRaise, mDisp, noSlots, mDrop, mIter, mMeth, ofTy, mFor, forL, mPutF, mFld, putP, lookN, putN, flatB, flatD, max2D, min2D, mPart, mNoPart, mSl, orF, orC, gtD, ltD, leD, leI, geD, subI, addD_ii, modI, isN, isntN, mIfE, mNeg, mBreak, mCont, orE, boxed, ofStr_eq, mMake0, madeR, mOwn, methR, methC, backC, mCell, mSetKey, mSetIx, setL, mAugIx, mCall, mMake, madeC, mLc, mYes, wipeS, backS, backE, mMaxDf, intsD, mIsK, mFrz, frzS, size_le, size_lt, cleanL_append, mMut, appendU, cont_slotE, List.any, List.all, h]
  rw [List.nil_append, ← signs_map] at hlc
  have hne := ne_signs ((TL.tl w).filter fun c => !dgB c) fun c hc => ha c (List.mem_filter.mp hc).1
  have hcl : cleanL (((TL.tl w).filter fun c => !dgB c).map fun c => D.str ⟨#[c]⟩) = true := by
    have := cleanL_strs (((TL.tl w).filter fun c => !dgB c).map fun c => (⟨#[c]⟩ : Str))
    rw [List.map_map] at this
    exact this
  have hem := filt_empty dgB (TL.tl w)
  rw [hem] at hne
  generalize (((TL.tl w).filter fun c => !dgB c).map fun c => D.str ⟨#[c]⟩) = fl at hlc hne hcl
  have hN : isNum w = ((decide (1 ≤ w.length) && decide (w.length ≤ 60) && (TL.tl w).all dgB) && (decide (w = ("0" : Str)) || !decide ((TL.tl w)[0]? = some 48))) := by
    unfold isNum
    rw [starts0]
  unfold m_l_law_number b_l_law_number
  by_cases h1 : 1 ≤ w.length
  · have i1 : (1 : Int) ≤ (w.length : Int) := by omega
    by_cases h2 : w.length ≤ 60
    · have i2 : (w.length : Int) ≤ 60 := by omega
      cases hp : (TL.tl w).all dgB with
      | false =>
        have e := hn.mpr (by rw [hN, hp]; simp)
        rw [hp] at hne
        simp [runF, mSeq, mIf, mRet, mSkip, mVar, mC, mOp, mIsi, mNotV, mAndV, mOrV, mTest, mOr, mAnd, mNot, mCall0, lend_clean, back0, resD_clean, clean_non, clean_bl, clean_int, clean_str, clean_lst, clean_tup, clean_dct, clean_obj, cleanL_nil, cleanL_cons, mCons, mNil, ML.R.bind, ML.R.thenS, setS, lift2, cont_clean, cont_cell, cont_scr, cont_exn, contL, mCB, isSlot_clean, isSlot_cell, isSlot_exn, isSlot_slot, mAsg, gTp, gLs, gsCons, gsNil, gNm, mAug, tyD, kb_ii, kb_ib, kb_bi, kb_bb, kb_si, kb_ss, kb_tt, kb_ll, kb_tl, kb_sl, kb_dl, kb_il, kb_bl, mChain, mChain3, mSet, mSetOw, mRetN, mRaise, mDisp, noSlots, mDrop, mIter, mMeth, ofTy, mFor, forL, mPutF, mFld, putP, lookN, putN, flatB, flatD, max2D, min2D, mPart, mNoPart, mSl, orF, orC, gtD, ltD, leD, leI, geD, subI, addD_ii, modI, isN, isntN, mIfE, mNeg, mBreak, mCont, orE, boxed, ofStr_eq, mMake0, madeR, mOwn, methR, methC, backC, mCell, mSetKey, mSetIx, setL, mAugIx, mCall, mMake, madeC, mLc, mYes, wipeS, backS, backE, mMaxDf, intsD, mIsK, mFrz, frzS, size_le, size_lt, cleanL_append, mMut, appendU, cont_slotE, List.any, List.all, lenD, h3, i1, i2, hlc, hne, hcl, e]
      | true =>
        rw [hp] at hne
        obtain ⟨c, r, hc⟩ : ∃ c r, TL.tl w = c :: r := by
          cases q : TL.tl w with
          | nil => rw [TL.len_tl, q] at h1; simp at h1
          | cons c r => exact ⟨c, r, rfl⟩
        have hx : ixD (.str w) (.int 0) = some (.str ⟨#[c]⟩) := by
          have : L2.atI w.cps.toList (0 : Int) = some c := by
            have hc' : w.cps.toList = c :: r := hc
            rw [hc']
            unfold L2.atI L2.ixN
            simp
          unfold ixD orF ixSq
          simp only [this, if_pos h3]
        have h48 : ((⟨#[c]⟩ : Str) = ("0" : Str)) ↔ c = 48 := by
          have e : (Str.ofString "0") = (⟨#[48]⟩ : Str) := by decide +kernel
          rw [e]
          simp
        have e48 : (⟨#[48]⟩ : Str) = ("0" : Str) := by decide +kernel
        rw [hp, hc] at hN
        simp only [List.getElem?_cons_zero, Option.some.injEq, h1, h2, decide_true, Bool.and_self, Bool.true_and] at hN
        by_cases h0 : w = ("0" : Str)
        · have hq : isNum w = true := by rw [hN, h0]; simp
          obtain ⟨n, e, hnl⟩ := (isNum_iff w).mp hq
          have e2 : num w = some n := by rw [e]; exact num_numS hnl
          have h5 : PySem.intText? w = some ((n : Nat) : Int) := by rw [e]; exact TL.int_num (by omega)
          have h6 : w.length ≤ 640 := by omega
          have hn0 : neD (.str w) (.str "0") = some (.bl false) := by rw [ne_ss, h0]; simp
          by_cases hc0 : c = 48 <;> simp [runF, mSeq, mIf, mRet, mSkip, mVar, mC, mOp, mIsi, mNotV, mAndV, mOrV, mTest, mOr, mAnd, mNot, mCall0, lend_clean, back0, resD_clean, clean_non, clean_bl, clean_int, clean_str, clean_lst, clean_tup, clean_dct, clean_obj, cleanL_nil, cleanL_cons, mCons, mNil, ML.R.bind, ML.R.thenS, setS, lift2, cont_clean, cont_cell, cont_scr, cont_exn, contL, mCB, isSlot_clean, isSlot_cell, isSlot_exn, isSlot_slot, mAsg, gTp, gLs, gsCons, gsNil, gNm, mAug, tyD, kb_ii, kb_ib, kb_bi, kb_bb, kb_si, kb_ss, kb_tt, kb_ll, kb_tl, kb_sl, kb_dl, kb_il, kb_bl, mChain, mChain3, mSet, mSetOw, mRetN, mRaise, mDisp, noSlots, mDrop, mIter, mMeth, ofTy, mFor, forL, mPutF, mFld, putP, lookN, putN, flatB, flatD, max2D, min2D, mPart, mNoPart, mSl, orF, orC, gtD, ltD, leD, leI, geD, subI, addD_ii, modI, isN, isntN, mIfE, mNeg, mBreak, mCont, orE, boxed, ofStr_eq, mMake0, madeR, mOwn, methR, methC, backC, mCell, mSetKey, mSetIx, setL, mAugIx, mCall, mMake, madeC, mLc, mYes, wipeS, backS, backE, mMaxDf, intsD, mIsK, mFrz, frzS, size_le, size_lt, cleanL_append, mMut, appendU, cont_slotE, List.any, List.all, lenD, h3, i1, i2, hlc, hne, hcl, hx, eq_ss, hn0, h48, e48, hc0, e2, intD, h5, h6]
        · by_cases hc0 : c = 48
          · have e := hn.mpr (by rw [hN]; simp [h0, hc0])
            simp [runF, mSeq, mIf, mRet, mSkip, mVar, mC, mOp, mIsi, mNotV, mAndV, mOrV, mTest, mOr, mAnd, mNot, mCall0, lend_clean, back0, resD_clean, clean_non, clean_bl, clean_int, clean_str, clean_lst, clean_tup, clean_dct, clean_obj, cleanL_nil, cleanL_cons, mCons, mNil, ML.R.bind, ML.R.thenS, setS, lift2, cont_clean, cont_cell, cont_scr, cont_exn, contL, mCB, isSlot_clean, isSlot_cell, isSlot_exn, isSlot_slot, mAsg, gTp, gLs, gsCons, gsNil, gNm, mAug, tyD, kb_ii, kb_ib, kb_bi, kb_bb, kb_si, kb_ss, kb_tt, kb_ll, kb_tl, kb_sl, kb_dl, kb_il, kb_bl, mChain, mChain3, mSet, mSetOw, mRetN, mRaise, mDisp, noSlots, mDrop, mIter, mMeth, ofTy, mFor, forL, mPutF, mFld, putP, lookN, putN, flatB, flatD, max2D, min2D, mPart, mNoPart, mSl, orF, orC, gtD, ltD, leD, leI, geD, subI, addD_ii, modI, isN, isntN, mIfE, mNeg, mBreak, mCont, orE, boxed, ofStr_eq, mMake0, madeR, mOwn, methR, methC, backC, mCell, mSetKey, mSetIx, setL, mAugIx, mCall, mMake, madeC, mLc, mYes, wipeS, backS, backE, mMaxDf, intsD, mIsK, mFrz, frzS, size_le, size_lt, cleanL_append, mMut, appendU, cont_slotE, List.any, List.all, lenD, h3, i1, i2, hlc, hne, hcl, hx, eq_ss, ne_ss, h48, e48, h0, hc0, e]
          · have hq : isNum w = true := by rw [hN]; simp [hc0]
            obtain ⟨n, e, hnl⟩ := (isNum_iff w).mp hq
            have e2 : num w = some n := by rw [e]; exact num_numS hnl
            have h5 : PySem.intText? w = some ((n : Nat) : Int) := by rw [e]; exact TL.int_num (by omega)
            have h6 : w.length ≤ 640 := by omega
            simp [runF, mSeq, mIf, mRet, mSkip, mVar, mC, mOp, mIsi, mNotV, mAndV, mOrV, mTest, mOr, mAnd, mNot, mCall0, lend_clean, back0, resD_clean, clean_non, clean_bl, clean_int, clean_str, clean_lst, clean_tup, clean_dct, clean_obj, cleanL_nil, cleanL_cons, mCons, mNil, ML.R.bind, ML.R.thenS, setS, lift2, cont_clean, cont_cell, cont_scr, cont_exn, contL, mCB, isSlot_clean, isSlot_cell, isSlot_exn, isSlot_slot, mAsg, gTp, gLs, gsCons, gsNil, gNm, mAug, tyD, kb_ii, kb_ib, kb_bi, kb_bb, kb_si, kb_ss, kb_tt, kb_ll, kb_tl, kb_sl, kb_dl, kb_il, kb_bl, mChain, mChain3, mSet, mSetOw, mRetN, mRaise, mDisp, noSlots, mDrop, mIter, mMeth, ofTy, mFor, forL, mPutF, mFld, putP, lookN, putN, flatB, flatD, max2D, min2D, mPart, mNoPart, mSl, orF, orC, gtD, ltD, leD, leI, geD, subI, addD_ii, modI, isN, isntN, mIfE, mNeg, mBreak, mCont, orE, boxed, ofStr_eq, mMake0, madeR, mOwn, methR, methC, backC, mCell, mSetKey, mSetIx, setL, mAugIx, mCall, mMake, madeC, mLc, mYes, wipeS, backS, backE, mMaxDf, intsD, mIsK, mFrz, frzS, size_le, size_lt, cleanL_append, mMut, appendU, cont_slotE, List.any, List.all, lenD, h3, i1, i2, hlc, hne, hcl, hx, eq_ss, ne_ss, h48, e48, h0, hc0, e2, intD, h5, h6]
    · have i2 : ¬ (w.length : Int) ≤ 60 := by omega
      have e := hn.mpr (by rw [hN]; simp [h2])
      simp [runF, mSeq, mIf, mRet, mSkip, mVar, mC, mOp, mIsi, mNotV, mAndV, mOrV, mTest, mOr, mAnd, mNot, mCall0, lend_clean, back0, resD_clean, clean_non, clean_bl, clean_int, clean_str, clean_lst, clean_tup, clean_dct, clean_obj, cleanL_nil, cleanL_cons, mCons, mNil, ML.R.bind, ML.R.thenS, setS, lift2, cont_clean, cont_cell, cont_scr, cont_exn, contL, mCB, isSlot_clean, isSlot_cell, isSlot_exn, isSlot_slot, mAsg, gTp, gLs, gsCons, gsNil, gNm, mAug, tyD, kb_ii, kb_ib, kb_bi, kb_bb, kb_si, kb_ss, kb_tt, kb_ll, kb_tl, kb_sl, kb_dl, kb_il, kb_bl, mChain, mChain3, mSet, mSetOw, mRetN, mRaise, mDisp, noSlots, mDrop, mIter, mMeth, ofTy, mFor, forL, mPutF, mFld, putP, lookN, putN, flatB, flatD, max2D, min2D, mPart, mNoPart, mSl, orF, orC, gtD, ltD, leD, leI, geD, subI, addD_ii, modI, isN, isntN, mIfE, mNeg, mBreak, mCont, orE, boxed, ofStr_eq, mMake0, madeR, mOwn, methR, methC, backC, mCell, mSetKey, mSetIx, setL, mAugIx, mCall, mMake, madeC, mLc, mYes, wipeS, backS, backE, mMaxDf, intsD, mIsK, mFrz, frzS, size_le, size_lt, cleanL_append, mMut, appendU, cont_slotE, List.any, List.all, lenD, h3, i1, i2, e]
  · have i1 : ¬ (1 : Int) ≤ (w.length : Int) := by omega
    have e := hn.mpr (by rw [hN]; simp [h1])
    simp [runF, mSeq, mIf, mRet, mSkip, mVar, mC, mOp, mIsi, mNotV, mAndV, mOrV, mTest, mOr, mAnd, mNot, mCall0, lend_clean, back0, resD_clean, clean_non, clean_bl, clean_int, clean_str, clean_lst, clean_tup, clean_dct, clean_obj, cleanL_nil, cleanL_cons, mCons, mNil, ML.R.bind, ML.R.thenS, setS, lift2, cont_clean, cont_cell, cont_scr, cont_exn, contL, mCB, isSlot_clean, isSlot_cell, isSlot_exn, isSlot_slot, mAsg, gTp, gLs, gsCons, gsNil, gNm, mAug, tyD, kb_ii, kb_ib, kb_bi, kb_bb, kb_si, kb_ss, kb_tt, kb_ll, kb_tl, kb_sl, kb_dl, kb_il, kb_bl, mChain, mChain3, mSet, mSetOw, mRetN, mRaise, mDisp, noSlots, mDrop, mIter, mMeth, ofTy, mFor, forL, mPutF, mFld, putP, lookN, putN, flatB, flatD, max2D, min2D, mPart, mNoPart, mSl, orF, orC, gtD, ltD, leD, leI, geD, subI, addD_ii, modI, isN, isntN, mIfE, mNeg, mBreak, mCont, orE, boxed, ofStr_eq, mMake0, madeR, mOwn, methR, methC, backC, mCell, mSetKey, mSetIx, setL, mAugIx, mCall, mMake, madeC, mLc, mYes, wipeS, backS, backE, mMaxDf, intsD, mIsK, mFrz, frzS, size_le, size_lt, cleanL_append, mMut, appendU, cont_slotE, List.any, List.all, lenD, h3, i1, e]
theorem p_law_name {w : Str} (hl : w.length ≤ 100000) : m_l_law_name [.str w] [] = .ok (.bl (isNm w)) [] := by
  have hsz := sizeLine_ge
  have h3 : w.length ≤ PySem.sizeLine := by omega
  have la : ∀ c : Nat, leD (.str "a") (.str ⟨#[c]⟩) = some (.bl (decide (97 ≤ c))) := fun c => by
    have e : (Str.ofString "a") = (⟨#[97]⟩ : Str) := by decide +kernel
    show some (D.bl (!decide ((⟨#[c]⟩ : Str).cps.toList < (Str.ofString "a").cps.toList))) = _
    rw [e]
    congr 2
    rw [Bool.eq_iff_iff]
    show (!decide ([c] < [97])) = true ↔ _
    simp only [Bool.not_eq_true', decide_eq_false_iff_not, decide_eq_true_eq, List.cons_lt_cons_iff, List.not_lt_nil, and_false, or_false]
    omega
  have lz : ∀ c : Nat, leD (.str ⟨#[c]⟩) (.str "z") = some (.bl (decide (c ≤ 122))) := fun c => by
    have e : (Str.ofString "z") = (⟨#[122]⟩ : Str) := by decide +kernel
    show some (D.bl (!decide ((Str.ofString "z").cps.toList < (⟨#[c]⟩ : Str).cps.toList))) = _
    rw [e]
    congr 2
    rw [Bool.eq_iff_iff]
    show (!decide ([122] < [c])) = true ↔ _
    simp only [Bool.not_eq_true', decide_eq_false_iff_not, decide_eq_true_eq, List.cons_lt_cons_iff, List.not_lt_nil, and_false, or_false]
    omega
  have hlc := lcL_all (g := gNm 1) (mt := mYes) (me := mChain leD leD (mC (.str "a")) (mVar 1) (mC (.str "z"))) (vs := [1]) (fun c : Nat => D.str ⟨#[c]⟩) (fun c : Nat => D.bl (lwB c)) ⟨[.fz (.str w), .no], []⟩ (TL.tl w) [] (by rw [← TL.len_tl]; simp; omega) fun c hc => by
    refine ⟨⟨[.fz (.str w), .fz (.str ⟨#[c]⟩)], []⟩, _, ⟨[.fz (.str w), .fz (.str ⟨#[c]⟩)], []⟩, rfl, rfl, ?_, rfl, rfl⟩
    have h1 := la c
    have h2 := lz c
    unfold lwB
    by_cases q1 : 97 ≤ c
    · simp [q1] at h1
      simp [mChain, mC, mVar, ML.R.bind, lift2, cont_clean, clean_str, h1, h2, q1]
    · simp [q1] at h1
      simp [mChain, mC, mVar, ML.R.bind, lift2, cont_clean, clean_str, h1, q1]
  rw [List.nil_append, ← signs_map] at hlc
  have hin := inD_bools true ((TL.tl w).map lwB)
  have hall : ((TL.tl w).map lwB).all id = (TL.tl w).all lwB := by rw [List.all_map]; rfl
  rw [hall, if_pos rfl, List.map_map] at hin
  have hcb : cleanL ((TL.tl w).map fun c => D.bl (lwB c)) = true := by
    have := cleanL_bools ((TL.tl w).map lwB)
    rw [List.map_map] at this
    exact this
  have hin : inD true (.bl false) (.lst ((TL.tl w).map fun c => D.bl (lwB c))) = some (.bl ((TL.tl w).all lwB)) := hin
  generalize ((TL.tl w).map fun c => D.bl (lwB c)) = fl at hlc hin hcb
  obtain ⟨me, hme⟩ : ∃ me, me = mChain leD leD (mC (.str "a")) (mVar 1) (mC (.str "z")) := ⟨_, rfl⟩
  rw [← hme] at hlc
  unfold m_l_law_name b_l_law_name isNm
  rw [← hme]
  by_cases h1 : 1 ≤ w.length
  · have i1 : (1 : Int) ≤ (w.length : Int) := by omega
    by_cases h2 : w.length ≤ 8
    · have i2 : (w.length : Int) ≤ 8 := by omega
      simp [runF, mSeq, mIf, mRet, mSkip, mVar, mC, mOp, mIsi, mNotV, mAndV, mOrV, mTest, mOr, mAnd, mNot, mCall0, lend_clean, back0, resD_clean, clean_non, clean_bl, clean_int, clean_str, clean_lst, clean_tup, clean_dct, clean_obj, cleanL_nil, cleanL_cons, mCons, mNil, ML.R.bind, ML.R.thenS, setS, lift2, cont_clean, cont_cell, cont_scr, cont_exn, contL, mCB, isSlot_clean, isSlot_cell, isSlot_exn, isSlot_slot, mAsg, gTp, gLs, gsCons, gsNil, gNm, mAug, tyD, kb_ii, kb_ib, kb_bi, kb_bb, kb_si, kb_ss, kb_tt, kb_ll, kb_tl, kb_sl, kb_dl, kb_il, kb_bl, mChain, mChain3, mSet, mSetOw, mRetN, mRaise, mDisp, noSlots, mDrop, mIter, mMeth, ofTy, mFor, forL, mPutF, mFld, putP, lookN, putN, flatB, flatD, max2D, min2D, mPart, mNoPart, mSl, orF, orC, gtD, ltD, leD, leI, geD, subI, addD_ii, modI, isN, isntN, mIfE, mNeg, mBreak, mCont, orE, boxed, ofStr_eq, mMake0, madeR, mOwn, methR, methC, backC, mCell, mSetKey, mSetIx, setL, mAugIx, mCall, mMake, madeC, mLc, mYes, wipeS, backS, backE, mMaxDf, intsD, mIsK, mFrz, frzS, size_le, size_lt, cleanL_append, mMut, appendU, cont_slotE, List.any, List.all, lenD, h3, i1, i2, h1, h2, hlc, hin, hcb]
    · have i2 : ¬ (w.length : Int) ≤ 8 := by omega
      simp [runF, mSeq, mIf, mRet, mSkip, mVar, mC, mOp, mIsi, mNotV, mAndV, mOrV, mTest, mOr, mAnd, mNot, mCall0, lend_clean, back0, resD_clean, clean_non, clean_bl, clean_int, clean_str, clean_lst, clean_tup, clean_dct, clean_obj, cleanL_nil, cleanL_cons, mCons, mNil, ML.R.bind, ML.R.thenS, setS, lift2, cont_clean, cont_cell, cont_scr, cont_exn, contL, mCB, isSlot_clean, isSlot_cell, isSlot_exn, isSlot_slot, mAsg, gTp, gLs, gsCons, gsNil, gNm, mAug, tyD, kb_ii, kb_ib, kb_bi, kb_bb, kb_si, kb_ss, kb_tt, kb_ll, kb_tl, kb_sl, kb_dl, kb_il, kb_bl, mChain, mChain3, mSet, mSetOw, mRetN, mRaise, mDisp, noSlots, mDrop, mIter, mMeth, ofTy, mFor, forL, mPutF, mFld, putP, lookN, putN, flatB, flatD, max2D, min2D, mPart, mNoPart, mSl, orF, orC, gtD, ltD, leD, leI, geD, subI, addD_ii, modI, isN, isntN, mIfE, mNeg, mBreak, mCont, orE, boxed, ofStr_eq, mMake0, madeR, mOwn, methR, methC, backC, mCell, mSetKey, mSetIx, setL, mAugIx, mCall, mMake, madeC, mLc, mYes, wipeS, backS, backE, mMaxDf, intsD, mIsK, mFrz, frzS, size_le, size_lt, cleanL_append, mMut, appendU, cont_slotE, List.any, List.all, lenD, h3, i1, i2, h1, h2]
  · have i1 : ¬ (1 : Int) ≤ (w.length : Int) := by omega
    simp [runF, mSeq, mIf, mRet, mSkip, mVar, mC, mOp, mIsi, mNotV, mAndV, mOrV, mTest, mOr, mAnd, mNot, mCall0, lend_clean, back0, resD_clean, clean_non, clean_bl, clean_int, clean_str, clean_lst, clean_tup, clean_dct, clean_obj, cleanL_nil, cleanL_cons, mCons, mNil, ML.R.bind, ML.R.thenS, setS, lift2, cont_clean, cont_cell, cont_scr, cont_exn, contL, mCB, isSlot_clean, isSlot_cell, isSlot_exn, isSlot_slot, mAsg, gTp, gLs, gsCons, gsNil, gNm, mAug, tyD, kb_ii, kb_ib, kb_bi, kb_bb, kb_si, kb_ss, kb_tt, kb_ll, kb_tl, kb_sl, kb_dl, kb_il, kb_bl, mChain, mChain3, mSet, mSetOw, mRetN, mRaise, mDisp, noSlots, mDrop, mIter, mMeth, ofTy, mFor, forL, mPutF, mFld, putP, lookN, putN, flatB, flatD, max2D, min2D, mPart, mNoPart, mSl, orF, orC, gtD, ltD, leD, leI, geD, subI, addD_ii, modI, isN, isntN, mIfE, mNeg, mBreak, mCont, orE, boxed, ofStr_eq, mMake0, madeR, mOwn, methR, methC, backC, mCell, mSetKey, mSetIx, setL, mAugIx, mCall, mMake, madeC, mLc, mYes, wipeS, backS, backE, mMaxDf, intsD, mIsK, mFrz, frzS, size_le, size_lt, cleanL_append, mMut, appendU, cont_slotE, List.any, List.all, lenD, h3, i1, h1]
end K85
end
section
set_option Elab.async false
set_option linter.all false
set_option maxRecDepth 100000
set_option autoImplicit false
set_option maxHeartbeats 1000000
/-! K85r: texts read: words, holds, works. -/
namespace K85
open PySem ML
abbrev NHo := Str × Nat × Nat
def hosD (os : List NHo) : List D := os.map fun o => hoD (hoN o)
theorem hosD_eq (os : List NHo) : hosD os = (os.map hoN).map hoD := by unfold hosD; simp
theorem cleanL_hos (os : List NHo) : cleanL (hosD os) = true := by
  have := cleanL_ho (os.map hoN)
  rw [List.map_map] at this
  exact this
/-! ### split, partition -/
theorem join_split (x : Str) : Txt.join " " (Txt.split x " ") = x := by
  have one : Txt.join " " [x] = x := by
    rw [TL.join_eq]
    refine TL.ext_tl ?_
    rw [TL.tl_join]
    rfl
  unfold Txt.split
  split
  · exact one
  · split
    · exact one
    · exact StrLaws.glued_between_self x " " _
theorem mem_joinL (S : List Nat) : ∀ {ps : List (List Nat)} {p : List Nat} {c : Nat}, p ∈ ps → c ∈ p → c ∈ TL.joinL S ps
  | [], _, _, h, _ => by cases h
  | [q], p, c, h, hc => by
    rw [List.mem_singleton] at h
    subst h
    exact hc
  | q :: r :: ps, p, c, h, hc => by
    have e : TL.joinL S (q :: r :: ps) = q ++ (S ++ TL.joinL S (r :: ps)) := rfl
    rw [e]
    rcases List.mem_cons.mp h with rfl | h
    · exact List.mem_append_left _ hc
    · exact List.mem_append_right _ (List.mem_append_right _ (mem_joinL S h hc))
theorem split_mem {x p : Str} (h : p ∈ Txt.split x " ") {c : Nat} (hc : c ∈ TL.tl p) : c ∈ TL.tl x := by
  have e := join_split x
  rw [TL.join_eq] at e
  have e2 := congrArg TL.tl e
  rw [TL.tl_join] at e2
  rw [← e2]
  exact mem_joinL _ (List.mem_map_of_mem h) hc
theorem len_joinL (S : List Nat) : ∀ {ps : List (List Nat)} {p : List Nat}, p ∈ ps → p.length ≤ (TL.joinL S ps).length
  | [], _, h => by cases h
  | [q], p, h => by
    rw [List.mem_singleton] at h
    subst h
    exact Nat.le_refl _
  | q :: r :: ps, p, h => by
    have e : TL.joinL S (q :: r :: ps) = q ++ (S ++ TL.joinL S (r :: ps)) := rfl
    rw [e]
    simp only [List.length_append]
    rcases List.mem_cons.mp h with rfl | h
    · omega
    · have := len_joinL S h
      omega
theorem split_len {x p : Str} (h : p ∈ Txt.split x " ") : p.length ≤ x.length := by
  have e := join_split x
  rw [TL.join_eq] at e
  have e2 := congrArg TL.tl e
  rw [TL.tl_join] at e2
  rw [TL.len_tl, TL.len_tl, ← e2]
  exact len_joinL _ (List.mem_map_of_mem h)
theorem count_joinL (s : Nat) : ∀ (ps : List (List Nat)), ps.length ≤ (TL.joinL [s] ps).length + 1
  | [] => by simp
  | [q] => by simp
  | q :: r :: ps => by
    have e : TL.joinL [s] (q :: r :: ps) = q ++ ([s] ++ TL.joinL [s] (r :: ps)) := rfl
    have ih := count_joinL s (r :: ps)
    rw [e]
    simp only [List.length_append, List.length_cons, List.length_nil] at ih ⊢
    omega
theorem split_count (x : Str) : (Txt.split x " ").length ≤ x.length + 1 := by
  have e := join_split x
  rw [TL.join_eq] at e
  have e2 := congrArg TL.tl e
  have e3 : TL.tl (Str.ofString " ") = [32] := by decide +kernel
  rw [TL.tl_join, e3] at e2
  rw [TL.len_tl x, ← e2]
  have := count_joinL 32 ((Txt.split x " ").map TL.tl)
  rw [List.length_map] at this
  exact this
theorem part_cases (w : Str) {s : Nat} {y : Str} (ey : TL.tl y = [s]) : (∃ a b, w = a ++ y ++ b ∧ s ∉ TL.tl a ∧ Txt.partition w y = (a, y, b)) ∨ (s ∉ TL.tl w ∧ Txt.partition w y = (w, Str.empty, Str.empty)) := by
  by_cases hs : s ∈ TL.tl w
  · obtain ⟨as, bs, e, hn⟩ := List.eq_append_cons_of_mem hs
    have ew : w = ⟨as.toArray⟩ ++ y ++ ⟨bs.toArray⟩ := TL.ext_tl (by
      simp only [TL.tl_append, ey]
      rw [e]
      show as ++ s :: bs = as ++ [s] ++ bs
      simp)
    refine .inl ⟨⟨as.toArray⟩, ⟨bs.toArray⟩, ew, hn, ?_⟩
    have := TL.partition_app (y := y) (S := []) ey (a := ⟨as.toArray⟩) (b := ⟨bs.toArray⟩) hn
    rw [← ew] at this
    exact this
  · exact .inr ⟨hs, TL.partition_none (S := []) ey hs⟩
theorem part_mem {w : Str} {s : Nat} {y : Str} (ey : TL.tl y = [s]) : (Txt.partition w y).1.length ≤ w.length ∧ (Txt.partition w y).2.2.length ≤ w.length ∧ (∀ c ∈ TL.tl (Txt.partition w y).1, c ∈ TL.tl w) ∧ ∀ c ∈ TL.tl (Txt.partition w y).2.2, c ∈ TL.tl w := by
  rcases part_cases w ey with ⟨a, b, e, _, h⟩ | ⟨_, h⟩
  · rw [h, e]
    refine ⟨by simp only [len_app]; omega, by simp only [len_app]; omega, fun c hc => ?_, fun c hc => ?_⟩ <;> simp only [TL.tl_append, List.mem_append]
    · exact .inl (.inl hc)
    · exact .inr hc
  · rw [h]
    refine ⟨Nat.le_refl _, ?_, fun c hc => hc, fun c hc => ?_⟩
    · show (Str.empty).length ≤ _
      rw [show (Str.empty).length = 0 from rfl]
      omega
    · have : TL.tl Str.empty = [] := rfl
      rw [this] at hc
      cases hc
theorem e58 : TL.tl (Str.ofString ":") = [58] := by decide +kernel
theorem e45 : TL.tl (Str.ofString "-") = [45] := by decide +kernel
theorem num_empty : num Str.empty = none := by
  cases h : num Str.empty with
  | none => rfl
  | some n =>
    have := num_isSome h
    revert this
    have e : isNum Str.empty = false := by decide +kernel
    rw [e]
    intro z
    cases z
theorem lt_pow (n : Nat) : n < 10 ^ (TL.numL n).length := by
  induction n using Nat.strongRecOn with
  | ind n ih =>
    by_cases h : n < 10
    · rw [TL.numL_lt h]
      simpa using h
    · rw [TL.numL_step (by omega), List.length_append, List.length_singleton, Nat.pow_succ]
      have := ih (n / 10) (by omega)
      omega
theorem num_lt {w : Str} {n : Nat} (h : num w = some n) : n < 10 ^ 60 := Nat.lt_of_lt_of_le (lt_pow n) (Nat.pow_le_pow_right (by decide) (num_some h).2)
/-! ### a hold -/
noncomputable def rdH (w : Str) : Option NHo :=
  match num (Txt.partition (Txt.partition w ":").2.2 "-").1, num (Txt.partition (Txt.partition w ":").2.2 "-").2.2 with
  | some a, some b => some ((Txt.partition w ":").1, a, b)
  | _, _ => none
theorem rdH_some {w : Str} {h : NHo} (e : rdH w = some h) : w = hoT h ∧ 58 ∉ TL.tl h.1 ∧ h.2.1 < 10 ^ 60 ∧ h.2.2 < 10 ^ 60 ∧ (Txt.partition w ":").2.1 = ":" ∧ (Txt.partition (Txt.partition w ":").2.2 "-").2.1 = "-" := by
  unfold rdH at e
  rcases part_cases w e58 with ⟨a, b, ew, hn, hp⟩ | ⟨_, hp⟩
  · rw [hp] at e ⊢
    rcases part_cases b e45 with ⟨c, d, eb, hn2, hp2⟩ | ⟨_, hp2⟩
    · rw [hp2] at e ⊢
      cases q1 : num c with
      | none => rw [q1] at e; cases e
      | some m =>
        cases q2 : num d with
        | none => rw [q1, q2] at e; cases e
        | some n =>
          rw [q1, q2] at e
          cases e
          refine ⟨?_, hn, num_lt q1, num_lt q2, rfl, rfl⟩
          rw [ew, eb, (num_some q1).1, (num_some q2).1]
          unfold hoT hoS
          simp only [app_assoc]
    · rw [hp2] at e
      rw [num_empty] at e
      cases q1 : num b with
      | none => rw [q1] at e; cases e
      | some m => rw [q1] at e; cases e
  · rw [hp] at e
    have : Txt.partition (w, Str.empty, Str.empty).2.2 "-" = (Str.empty, Str.empty, Str.empty) := TL.partition_none (S := []) e45 (by
      have : TL.tl Str.empty = [] := rfl
      show 45 ∉ TL.tl Str.empty
      rw [this]
      simp)
    rw [this, num_empty] at e
    cases e
def rdR : Option NHo → Rt
  | some h => .ok (hoD (hoN h)) []
  | none => .exc ⟨3, [], []⟩ []
theorem part_ok {w : Str} {y : Str} {s : Nat} (ey : TL.tl y = [s]) (hl : w.length ≤ 100000) : partD (.str w) [.str y] = some (.tup [.str (Txt.partition w y).1, .str (Txt.partition w y).2.1, .str (Txt.partition w y).2.2]) := by
  have hz := sizeLine_ge
  have l1 : y.length = 1 := by rw [TL.len_tl, ey]; rfl
  simp only [partD]
  rw [if_pos ⟨by rw [l1]; rfl, by omega⟩]
theorem p_rdH {w : Str} (hl : w.length ≤ 100000) : m_read_hold [.str w] [] = rdR (rdH w) := by
  obtain ⟨l1, l2, _, _⟩ := part_mem (w := w) e58
  obtain ⟨l3, l4, _, _⟩ := part_mem (w := (Txt.partition w ":").2.2) e45
  have p1 := part_ok e58 hl
  have p2 := part_ok (w := (Txt.partition w ":").2.2) e45 (by omega)
  have n1 := p_num (w := (Txt.partition (Txt.partition w ":").2.2 "-").1) (by omega)
  have n2 := p_num (w := (Txt.partition (Txt.partition w ":").2.2 "-").2.2) (by omega)
  unfold rdH m_read_hold b_read_hold
  generalize (Txt.partition (Txt.partition w ":").2.2 "-").1 = s at p2 n1 ⊢
  generalize (Txt.partition (Txt.partition w ":").2.2 "-").2.1 = da at p2 ⊢
  generalize (Txt.partition (Txt.partition w ":").2.2 "-").2.2 = en at p2 n2 ⊢
  generalize (Txt.partition w ":").2.2 = re at p1 p2
  cases q1 : num s with
  | none =>
    rw [q1] at n1
    simp [runF, mSeq, mIf, mRet, mSkip, mVar, mC, mOp, mIsi, mNotV, mAndV, mOrV, mTest, mOr, mAnd, mNot, mCall0, lend_clean, back0, resD_clean, clean_non, clean_bl, clean_int, clean_str, clean_lst, clean_tup, clean_dct, clean_obj, cleanL_nil, cleanL_cons, mCons, mNil, ML.R.bind, ML.R.thenS, setS, lift2, cont_clean, cont_cell, cont_scr, cont_exn, contL, mCB, isSlot_clean, isSlot_cell, isSlot_exn, isSlot_slot, mAsg, gTp, gLs, gsCons, gsNil, gNm, mAug, tyD, kb_ii, kb_ib, kb_bi, kb_bb, kb_si, kb_ss, kb_tt, kb_ll, kb_tl, kb_sl, kb_dl, kb_il, kb_bl, mChain, mChain3, mSet, mSetOw, mRetN, mRaise, mDisp, noSlots, mDrop, mIter, mMeth, ofTy, mFor, forL, mPutF, mFld, putP, lookN, putN, flatB, flatD, max2D, min2D, mPart, mNoPart, mSl, orF, orC, gtD, ltD, leD, leI, geD, subI, addD_ii, modI, isN, isntN, mIfE, mNeg, mBreak, mCont, orE, boxed, ofStr_eq, mMake0, madeR, mOwn, methR, methC, backC, mCell, mSetKey, mSetIx, setL, mAugIx, mCall, mMake, madeC, mLc, mYes, wipeS, backS, backE, mMaxDf, intsD, mIsK, mFrz, frzS, size_le, size_lt, cleanL_append, mMut, appendU, cont_slotE, List.any, List.all, p1, p2, n1, numR, rdR]
  | some a =>
    rw [q1] at n1
    cases q2 : num en with
    | none =>
      rw [q2] at n2
      simp [runF, mSeq, mIf, mRet, mSkip, mVar, mC, mOp, mIsi, mNotV, mAndV, mOrV, mTest, mOr, mAnd, mNot, mCall0, lend_clean, back0, resD_clean, clean_non, clean_bl, clean_int, clean_str, clean_lst, clean_tup, clean_dct, clean_obj, cleanL_nil, cleanL_cons, mCons, mNil, ML.R.bind, ML.R.thenS, setS, lift2, cont_clean, cont_cell, cont_scr, cont_exn, contL, mCB, isSlot_clean, isSlot_cell, isSlot_exn, isSlot_slot, mAsg, gTp, gLs, gsCons, gsNil, gNm, mAug, tyD, kb_ii, kb_ib, kb_bi, kb_bb, kb_si, kb_ss, kb_tt, kb_ll, kb_tl, kb_sl, kb_dl, kb_il, kb_bl, mChain, mChain3, mSet, mSetOw, mRetN, mRaise, mDisp, noSlots, mDrop, mIter, mMeth, ofTy, mFor, forL, mPutF, mFld, putP, lookN, putN, flatB, flatD, max2D, min2D, mPart, mNoPart, mSl, orF, orC, gtD, ltD, leD, leI, geD, subI, addD_ii, modI, isN, isntN, mIfE, mNeg, mBreak, mCont, orE, boxed, ofStr_eq, mMake0, madeR, mOwn, methR, methC, backC, mCell, mSetKey, mSetIx, setL, mAugIx, mCall, mMake, madeC, mLc, mYes, wipeS, backS, backE, mMaxDf, intsD, mIsK, mFrz, frzS, size_le, size_lt, cleanL_append, mMut, appendU, cont_slotE, List.any, List.all, p1, p2, n1, n2, numR, rdR]
    | some b =>
      rw [q2] at n2
      simp [runF, mSeq, mIf, mRet, mSkip, mVar, mC, mOp, mIsi, mNotV, mAndV, mOrV, mTest, mOr, mAnd, mNot, mCall0, lend_clean, back0, resD_clean, clean_non, clean_bl, clean_int, clean_str, clean_lst, clean_tup, clean_dct, clean_obj, cleanL_nil, cleanL_cons, mCons, mNil, ML.R.bind, ML.R.thenS, setS, lift2, cont_clean, cont_cell, cont_scr, cont_exn, contL, mCB, isSlot_clean, isSlot_cell, isSlot_exn, isSlot_slot, mAsg, gTp, gLs, gsCons, gsNil, gNm, mAug, tyD, kb_ii, kb_ib, kb_bi, kb_bb, kb_si, kb_ss, kb_tt, kb_ll, kb_tl, kb_sl, kb_dl, kb_il, kb_bl, mChain, mChain3, mSet, mSetOw, mRetN, mRaise, mDisp, noSlots, mDrop, mIter, mMeth, ofTy, mFor, forL, mPutF, mFld, putP, lookN, putN, flatB, flatD, max2D, min2D, mPart, mNoPart, mSl, orF, orC, gtD, ltD, leD, leI, geD, subI, addD_ii, modI, isN, isntN, mIfE, mNeg, mBreak, mCont, orE, boxed, ofStr_eq, mMake0, madeR, mOwn, methR, methC, backC, mCell, mSetKey, mSetIx, setL, mAugIx, mCall, mMake, madeC, mLc, mYes, wipeS, backS, backE, mMaxDf, intsD, mIsK, mFrz, frzS, size_le, size_lt, cleanL_append, mMut, appendU, cont_slotE, List.any, List.all, p1, p2, n1, n2, numR, rdR, hoD, hoN]
def nO : Option Nat → D
  | some n => .int (n : Nat)
  | none => .non
theorem p_lnum {w : Str} (hl : w.length ≤ 100000) (ha : Asc w) : m_l_law_number [.str w] [] = .ok (nO (num w)) [] := by
  rw [p_law_number hl ha]
  cases num w <;> rfl
theorem clean_nO (o : Option Nat) : clean (nO o) = true := by cases o <;> exact Eq.trans rfl rfl
end K85
end
section
set_option Elab.async false
set_option linter.all false
set_option maxRecDepth 100000
set_option autoImplicit false
set_option maxHeartbeats 1000000
/-! K85s: works of any words. -/
namespace K85
open PySem ML
def hoB (L : Nat) (h : NHo) : Bool := isNm h.1 && (decide (h.2.1 < h.2.2) && decide (h.2.2 < L))
theorem p_hold {L : Nat} {h : NHo} (hl : h.1.length ≤ 100000) : m_is_hold [hoD (hoN h), .int (L : Nat)] [] = .ok (.bl (hoB L h)) [] := by
  have e := p_isnm hl []
  unfold m_is_hold b_is_hold hoD hoN hoB
  have i0 : (0 : Int) ≤ (h.2.1 : Nat) := by omega
  by_cases h1 : h.2.1 < h.2.2
  · have i1 : ((h.2.1 : Nat) : Int) < (h.2.2 : Nat) := by omega
    by_cases h2 : h.2.2 < L
    · have i2 : ((h.2.2 : Nat) : Int) < (L : Nat) := by omega
      cases q : isNm h.1 <;> rw [q] at e <;> simp [runF, mSeq, mIf, mRet, mSkip, mVar, mC, mOp, mIsi, mNotV, mAndV, mOrV, mTest, mOr, mAnd, mNot, mCall0, lend_clean, back0, resD_clean, clean_non, clean_bl, clean_int, clean_str, clean_lst, clean_tup, clean_dct, clean_obj, cleanL_nil, cleanL_cons, mCons, mNil, ML.R.bind, ML.R.thenS, setS, lift2, cont_clean, cont_cell, cont_scr, cont_exn, contL, mCB, isSlot_clean, isSlot_cell, isSlot_exn, isSlot_slot, mAsg, gTp, gLs, gsCons, gsNil, gNm, mAug, tyD, kb_ii, kb_ib, kb_bi, kb_bb, kb_si, kb_ss, kb_tt, kb_ll, kb_tl, kb_sl, kb_dl, kb_il, kb_bl, mChain, mChain3, mSet, mSetOw, mRetN, mRaise, mDisp, noSlots, mDrop, mIter, mMeth, ofTy, mFor, forL, mPutF, mFld, putP, lookN, putN, flatB, flatD, max2D, min2D, mPart, mNoPart, mSl, orF, orC, gtD, ltD, leD, leI, geD, subI, addD_ii, modI, isN, isntN, mIfE, mNeg, mBreak, mCont, orE, boxed, ofStr_eq, mMake0, madeR, mOwn, methR, methC, backC, mCell, mSetKey, mSetIx, setL, mAugIx, mCall, mMake, madeC, mLc, mYes, wipeS, backS, backE, mMaxDf, intsD, mIsK, mFrz, frzS, size_le, size_lt, cleanL_append, mMut, appendU, cont_slotE, List.any, List.all, ix3_0, ix3_1, ix3_2, e, p_is_whole, lenD, ne_ii, i0, i1, i2, h1, h2]
    · have i2 : ¬ ((h.2.2 : Nat) : Int) < (L : Nat) := by omega
      cases q : isNm h.1 <;> rw [q] at e <;> simp [runF, mSeq, mIf, mRet, mSkip, mVar, mC, mOp, mIsi, mNotV, mAndV, mOrV, mTest, mOr, mAnd, mNot, mCall0, lend_clean, back0, resD_clean, clean_non, clean_bl, clean_int, clean_str, clean_lst, clean_tup, clean_dct, clean_obj, cleanL_nil, cleanL_cons, mCons, mNil, ML.R.bind, ML.R.thenS, setS, lift2, cont_clean, cont_cell, cont_scr, cont_exn, contL, mCB, isSlot_clean, isSlot_cell, isSlot_exn, isSlot_slot, mAsg, gTp, gLs, gsCons, gsNil, gNm, mAug, tyD, kb_ii, kb_ib, kb_bi, kb_bb, kb_si, kb_ss, kb_tt, kb_ll, kb_tl, kb_sl, kb_dl, kb_il, kb_bl, mChain, mChain3, mSet, mSetOw, mRetN, mRaise, mDisp, noSlots, mDrop, mIter, mMeth, ofTy, mFor, forL, mPutF, mFld, putP, lookN, putN, flatB, flatD, max2D, min2D, mPart, mNoPart, mSl, orF, orC, gtD, ltD, leD, leI, geD, subI, addD_ii, modI, isN, isntN, mIfE, mNeg, mBreak, mCont, orE, boxed, ofStr_eq, mMake0, madeR, mOwn, methR, methC, backC, mCell, mSetKey, mSetIx, setL, mAugIx, mCall, mMake, madeC, mLc, mYes, wipeS, backS, backE, mMaxDf, intsD, mIsK, mFrz, frzS, size_le, size_lt, cleanL_append, mMut, appendU, cont_slotE, List.any, List.all, ix3_0, ix3_1, ix3_2, e, p_is_whole, lenD, ne_ii, i0, i1, i2, h1, h2]
  · have i1 : ¬ ((h.2.1 : Nat) : Int) < (h.2.2 : Nat) := by omega
    cases q : isNm h.1 <;> rw [q] at e <;> simp [runF, mSeq, mIf, mRet, mSkip, mVar, mC, mOp, mIsi, mNotV, mAndV, mOrV, mTest, mOr, mAnd, mNot, mCall0, lend_clean, back0, resD_clean, clean_non, clean_bl, clean_int, clean_str, clean_lst, clean_tup, clean_dct, clean_obj, cleanL_nil, cleanL_cons, mCons, mNil, ML.R.bind, ML.R.thenS, setS, lift2, cont_clean, cont_cell, cont_scr, cont_exn, contL, mCB, isSlot_clean, isSlot_cell, isSlot_exn, isSlot_slot, mAsg, gTp, gLs, gsCons, gsNil, gNm, mAug, tyD, kb_ii, kb_ib, kb_bi, kb_bb, kb_si, kb_ss, kb_tt, kb_ll, kb_tl, kb_sl, kb_dl, kb_il, kb_bl, mChain, mChain3, mSet, mSetOw, mRetN, mRaise, mDisp, noSlots, mDrop, mIter, mMeth, ofTy, mFor, forL, mPutF, mFld, putP, lookN, putN, flatB, flatD, max2D, min2D, mPart, mNoPart, mSl, orF, orC, gtD, ltD, leD, leI, geD, subI, addD_ii, modI, isN, isntN, mIfE, mNeg, mBreak, mCont, orE, boxed, ofStr_eq, mMake0, madeR, mOwn, methR, methC, backC, mCell, mSetKey, mSetIx, setL, mAugIx, mCall, mMake, madeC, mLc, mYes, wipeS, backS, backE, mMaxDf, intsD, mIsK, mFrz, frzS, size_le, size_lt, cleanL_append, mMut, appendU, cont_slotE, List.any, List.all, ix3_0, ix3_1, ix3_2, e, p_is_whole, lenD, ne_ii, i0, i1, h1]
def hoAt (L : Nat) (hs : List NHo) (k : Nat) : Bool := match hs[k]? with
  | some h => hoB L h
  | none => true
def holdsB (L : Nat) (hs : List NHo) : Bool := (List.range hs.length).all fun k => hoAt L hs k && fitAt (hs.map hoN) k
theorem turn2 {L : Nat} {hs : List NHo} {x : Nat} {h : NHo} (hm : ixD (.lst ((hs.map hoN).map hoD)) (.int (x : Nat)) = some (hoD (hoN h))) (hl : h.1.length ≤ 100000) (b : Sl) :
    b_holds_fit_1 (stF (hs.map hoN) (L : Nat) (.fz (.int (x : Nat))) b) = if hoB L h = true then forL (gNm 3) b_holds_fit_2 (((hs.map hoN).take x).map hoD) (stF (hs.map hoN) (L : Nat) (.fz (.int (x : Nat))) b) else .rt (.bl false) (stF (hs.map hoN) (L : Nat) (.fz (.int (x : Nat))) b) := by
  have hh := p_hold (L := L) hl
  have hsl := slL_to ((hs.map hoN).map hoD) x
  have hc := clean_ho (hoN h)
  have hcl := cleanL_ho (hs.map hoN)
  rw [← List.map_take] at hsl
  generalize ((hs.map hoN).take x).map hoD = tk at hsl ⊢
  unfold stF
  generalize (hs.map hoN).map hoD = ds at hm hsl hcl ⊢
  unfold b_holds_fit_1
  cases q : hoB L h <;> rw [q] at hh <;> simp [runF, mSeq, mIf, mRet, mSkip, mVar, mC, mOp, mIsi, mNotV, mAndV, mOrV, mTest, mOr, mAnd, mNot, mCall0, lend_clean, back0, resD_clean, clean_non, clean_bl, clean_int, clean_str, clean_lst, clean_tup, clean_dct, clean_obj, cleanL_nil, cleanL_cons, mCons, mNil, ML.R.bind, ML.R.thenS, setS, lift2, cont_clean, cont_cell, cont_scr, cont_exn, contL, mCB, isSlot_clean, isSlot_cell, isSlot_exn, isSlot_slot, mAsg, gTp, gLs, gsCons, gsNil, gNm, mAug, tyD, kb_ii, kb_ib, kb_bi, kb_bb, kb_si, kb_ss, kb_tt, kb_ll, kb_tl, kb_sl, kb_dl, kb_il, kb_bl, mChain, mChain3, mSet, mSetOw, mRetN, mRaise, mDisp, noSlots, mDrop, mIter, mMeth, ofTy, mFor, forL, mPutF, mFld, putP, lookN, putN, flatB, flatD, max2D, min2D, mPart, mNoPart, mSl, orF, orC, gtD, ltD, leD, leI, geD, subI, addD_ii, modI, isN, isntN, mIfE, mNeg, mBreak, mCont, orE, boxed, ofStr_eq, mMake0, madeR, mOwn, methR, methC, backC, mCell, mSetKey, mSetIx, setL, mAugIx, mCall, mMake, madeC, mLc, mYes, wipeS, backS, backE, mMaxDf, intsD, mIsK, mFrz, frzS, size_le, size_lt, cleanL_append, mMut, appendU, cont_slotE, List.any, List.all, hcl, hc, hm, hh, hsl]
theorem p_fits {L : Nat} {hs : List NHo} (hn : ∀ h ∈ hs, h.1.length ≤ 100000) : m_holds_fit [.lst (hosD hs), .int (L : Nat)] [] = .ok (.bl (decide (hs.length ≤ 6) && holdsB L hs)) [] := by
  rw [hosD_eq]
  by_cases h6 : hs.length ≤ 6
  · rw [fit_end (L := (L : Nat)) (hs := hs.map hoN) (by simpa using h6)]
    have key := forL_inv (g := gNm 2) (b := b_holds_fit_1) (fun k : Nat => D.int (k : Nat)) (fun k => hoAt L hs k && fitAt (hs.map hoN) k) (fun _ s => ∃ a b, s = stF (hs.map hoN) (L : Nat) a b) (fun f => ∃ a b, f = .rt (.bl false) (stF (hs.map hoN) (L : Nat) a b)) (fun s => ⟨by simp, by simp, by simp⟩)
      (List.range hs.length) [] (stF (hs.map hoN) (L : Nat) .no .no) ⟨_, _, rfl⟩ fun x l r s e ⟨a, b, es⟩ => by
        subst es
        obtain ⟨e1, e2, e3⟩ := range_split (by simpa using e)
        have hx0 : hs[x]? = some hs[x] := List.getElem?_eq_getElem e2
        have hx : (hs.map hoN)[x]? = some (hoN hs[x]) := by rw [List.getElem?_map, hx0]; rfl
        have hm := ixL (ds := (hs.map hoN).map hoD) (k := x) (d := hoD (hoN hs[x])) (by rw [List.getElem?_map, hx]; rfl)
        have ht := turn2 (L := L) (b := b) hm (hn _ (List.getElem_mem e2))
        have inner := forL_inv (g := gNm 3) (b := b_holds_fit_2) hoD (fun g => togB g (hoN hs[x])) (fun _ s => ∃ b, s = stF (hs.map hoN) (L : Nat) (.fz (.int (x : Nat))) b)
          (fun f => ∃ b, f = .rt (.bl false) (stF (hs.map hoN) (L : Nat) (.fz (.int (x : Nat))) b)) (fun s => ⟨by simp, by simp, by simp⟩) ((hs.map hoN).take x) [] (stF (hs.map hoN) (L : Nat) (.fz (.int (x : Nat))) b) ⟨_, rfl⟩ fun y l r s e ⟨b, es⟩ => by
            subst es
            refine ⟨stF (hs.map hoN) (L : Nat) (.fz (.int (x : Nat))) (.fz (hoD y)), rfl, fun hp => ⟨_, .inl ((fit_in hm b).trans (if_pos hp)), _, rfl⟩, fun hp => ⟨_, (fit_in hm b).trans (if_neg (by rw [hp]; exact Bool.false_ne_true))⟩⟩
        have hfit : fitAt (hs.map hoN) x = ((hs.map hoN).take x).all fun g => togB g (hoN hs[x]) := by unfold fitAt; rw [hx]
        have hat : hoAt L hs x = hoB L hs[x] := by unfold hoAt; rw [hx0]
        refine ⟨stF (hs.map hoN) (L : Nat) (.fz (.int (x : Nat))) b, rfl, fun hp => ?_, fun hp => ?_⟩
        · rw [hfit, hat, Bool.and_eq_true] at hp
          obtain ⟨s2, k1, b2, rfl⟩ := inner.1 hp.2
          exact ⟨_, .inl ((ht.trans (if_pos hp.1)).trans k1), _, _, rfl⟩
        · rw [hfit, hat] at hp
          cases q : hoB L hs[x] with
          | false => exact ⟨_, _, ht.trans (if_neg (by rw [q]; exact Bool.false_ne_true))⟩
          | true =>
            rw [q, Bool.true_and] at hp
            obtain ⟨b2, k1⟩ := inner.2 hp
            exact ⟨_, b2, (ht.trans (if_pos q)).trans k1⟩
    rw [List.length_map]
    have hB : holdsB L hs = (List.range hs.length).all fun k => hoAt L hs k && fitAt (hs.map hoN) k := rfl
    rw [decide_eq_true h6, Bool.true_and, hB]
    cases hf : (List.range hs.length).all (fun k => hoAt L hs k && fitAt (hs.map hoN) k) with
    | true =>
      obtain ⟨s2, k1, a, b, rfl⟩ := key.1 hf
      unfold stF at k1
      generalize (hs.map hoN).map hoD = ds at k1
      simp [runF, mSeq, mIf, mRet, mSkip, mVar, mC, mOp, mIsi, mNotV, mAndV, mOrV, mTest, mOr, mAnd, mNot, mCall0, lend_clean, back0, resD_clean, clean_non, clean_bl, clean_int, clean_str, clean_lst, clean_tup, clean_dct, clean_obj, cleanL_nil, cleanL_cons, mCons, mNil, ML.R.bind, ML.R.thenS, setS, lift2, cont_clean, cont_cell, cont_scr, cont_exn, contL, mCB, isSlot_clean, isSlot_cell, isSlot_exn, isSlot_slot, mAsg, gTp, gLs, gsCons, gsNil, gNm, mAug, tyD, kb_ii, kb_ib, kb_bi, kb_bb, kb_si, kb_ss, kb_tt, kb_ll, kb_tl, kb_sl, kb_dl, kb_il, kb_bl, mChain, mChain3, mSet, mSetOw, mRetN, mRaise, mDisp, noSlots, mDrop, mIter, mMeth, ofTy, mFor, forL, mPutF, mFld, putP, lookN, putN, flatB, flatD, max2D, min2D, mPart, mNoPart, mSl, orF, orC, gtD, ltD, leD, leI, geD, subI, addD_ii, modI, isN, isntN, mIfE, mNeg, mBreak, mCont, orE, boxed, ofStr_eq, mMake0, madeR, mOwn, methR, methC, backC, mCell, mSetKey, mSetIx, setL, mAugIx, mCall, mMake, madeC, mLc, mYes, wipeS, backS, backE, mMaxDf, intsD, mIsK, mFrz, frzS, size_le, size_lt, cleanL_append, mMut, appendU, cont_slotE, List.any, List.all, k1]
    | false =>
      obtain ⟨a, b, k1⟩ := key.2 hf
      unfold stF at k1
      generalize (hs.map hoN).map hoD = ds at k1
      simp [runF, mSeq, mIf, mRet, mSkip, mVar, mC, mOp, mIsi, mNotV, mAndV, mOrV, mTest, mOr, mAnd, mNot, mCall0, lend_clean, back0, resD_clean, clean_non, clean_bl, clean_int, clean_str, clean_lst, clean_tup, clean_dct, clean_obj, cleanL_nil, cleanL_cons, mCons, mNil, ML.R.bind, ML.R.thenS, setS, lift2, cont_clean, cont_cell, cont_scr, cont_exn, contL, mCB, isSlot_clean, isSlot_cell, isSlot_exn, isSlot_slot, mAsg, gTp, gLs, gsCons, gsNil, gNm, mAug, tyD, kb_ii, kb_ib, kb_bi, kb_bb, kb_si, kb_ss, kb_tt, kb_ll, kb_tl, kb_sl, kb_dl, kb_il, kb_bl, mChain, mChain3, mSet, mSetOw, mRetN, mRaise, mDisp, noSlots, mDrop, mIter, mMeth, ofTy, mFor, forL, mPutF, mFld, putP, lookN, putN, flatB, flatD, max2D, min2D, mPart, mNoPart, mSl, orF, orC, gtD, ltD, leD, leI, geD, subI, addD_ii, modI, isN, isntN, mIfE, mNeg, mBreak, mCont, orE, boxed, ofStr_eq, mMake0, madeR, mOwn, methR, methC, backC, mCell, mSetKey, mSetIx, setL, mAugIx, mCall, mMake, madeC, mLc, mYes, wipeS, backS, backE, mMaxDf, intsD, mIsK, mFrz, frzS, size_le, size_lt, cleanL_append, mMut, appendU, cont_slotE, List.any, List.all, k1]
  · have hcl := cleanL_ho (hs.map hoN)
    have hlen : ((hs.map hoN).map hoD).length = hs.length := by simp
    have hz : (6 : Int) < (hs.length : Int) := by omega
    generalize (hs.map hoN).map hoD = ds at hcl hlen
    unfold m_holds_fit b_holds_fit
    simp [runF, mSeq, mIf, mRet, mSkip, mVar, mC, mOp, mIsi, mNotV, mAndV, mOrV, mTest, mOr, mAnd, mNot, mCall0, lend_clean, back0, resD_clean, clean_non, clean_bl, clean_int, clean_str, clean_lst, clean_tup, clean_dct, clean_obj, cleanL_nil, cleanL_cons, mCons, mNil, ML.R.bind, ML.R.thenS, setS, lift2, cont_clean, cont_cell, cont_scr, cont_exn, contL, mCB, isSlot_clean, isSlot_cell, isSlot_exn, isSlot_slot, mAsg, gTp, gLs, gsCons, gsNil, gNm, mAug, tyD, kb_ii, kb_ib, kb_bi, kb_bb, kb_si, kb_ss, kb_tt, kb_ll, kb_tl, kb_sl, kb_dl, kb_il, kb_bl, mChain, mChain3, mSet, mSetOw, mRetN, mRaise, mDisp, noSlots, mDrop, mIter, mMeth, ofTy, mFor, forL, mPutF, mFld, putP, lookN, putN, flatB, flatD, max2D, min2D, mPart, mNoPart, mSl, orF, orC, gtD, ltD, leD, leI, geD, subI, addD_ii, modI, isN, isntN, mIfE, mNeg, mBreak, mCont, orE, boxed, ofStr_eq, mMake0, madeR, mOwn, methR, methC, backC, mCell, mSetKey, mSetIx, setL, mAugIx, mCall, mMake, madeC, mLc, mYes, wipeS, backS, backE, mMaxDf, intsD, mIsK, mFrz, frzS, size_le, size_lt, cleanL_append, mMut, appendU, cont_slotE, List.any, List.all, hcl, lenD, hlen, hz, h6]
def okW (w : NW) : Bool := (isNm w.nm && (decide (1 ≤ w.g) && decide (1 ≤ w.l))) && ((decide (1 ≤ w.d) && decide (w.d ≤ w.g)) && (decide (w.hs.length ≤ 6) && holdsB w.l w.hs))
theorem p_newW {w : NW} (hn : w.nm.length ≤ 100000) (hh : ∀ h ∈ w.hs, h.1.length ≤ 100000) :
    m_Work_new [.cell 0, .str w.nm, .int (w.g : Nat), .int (w.l : Nat), .int (w.d : Nat), .int (w.e : Nat), .lst (hosD w.hs)] [.obj 6 [] []] = if okW w = true then .ok .non [wkD w.wk] else .exc ⟨0, [], []⟩ [.obj 6 [] []] := by
  have h1 := p_isnm hn []
  have hf := p_fits (L := w.l) hh
  have hwk : wkD w.wk = .obj 6 wkN [.str w.nm, .int (w.g : Nat), .int (w.l : Nat), .int (w.d : Nat), .int (w.e : Nat), .lst (hosD w.hs)] := by rw [hosD_eq]; rfl
  have hcl := cleanL_hos w.hs
  have i0 : (0 : Int) ≤ (w.e : Nat) := by omega
  rw [hwk]
  generalize hosD w.hs = ds at hf hcl ⊢
  have hO : okW w = ((isNm w.nm && (decide (1 ≤ w.g) && decide (1 ≤ w.l))) && ((decide (1 ≤ w.d) && decide (w.d ≤ w.g)) && (decide (w.hs.length ≤ 6) && holdsB w.l w.hs))) := rfl
  generalize (decide (w.hs.length ≤ 6) && holdsB w.l w.hs) = fb at hf hO
  rw [hO]
  unfold m_Work_new b_Work_new
  cases q1 : isNm w.nm with
  | false => rw [q1] at h1; simp [runF, mSeq, mIf, mRet, mSkip, mVar, mC, mOp, mIsi, mNotV, mAndV, mOrV, mTest, mOr, mAnd, mNot, mCall0, lend_clean, back0, resD_clean, clean_non, clean_bl, clean_int, clean_str, clean_lst, clean_tup, clean_dct, clean_obj, cleanL_nil, cleanL_cons, mCons, mNil, ML.R.bind, ML.R.thenS, setS, lift2, cont_clean, cont_cell, cont_scr, cont_exn, contL, mCB, isSlot_clean, isSlot_cell, isSlot_exn, isSlot_slot, mAsg, gTp, gLs, gsCons, gsNil, gNm, mAug, tyD, kb_ii, kb_ib, kb_bi, kb_bb, kb_si, kb_ss, kb_tt, kb_ll, kb_tl, kb_sl, kb_dl, kb_il, kb_bl, mChain, mChain3, mSet, mSetOw, mRetN, mRaise, mDisp, noSlots, mDrop, mIter, mMeth, ofTy, mFor, forL, mPutF, mFld, putP, lookN, putN, flatB, flatD, max2D, min2D, mPart, mNoPart, mSl, orF, orC, gtD, ltD, leD, leI, geD, subI, addD_ii, modI, isN, isntN, mIfE, mNeg, mBreak, mCont, orE, boxed, ofStr_eq, mMake0, madeR, mOwn, methR, methC, backC, mCell, mSetKey, mSetIx, setL, mAugIx, mCall, mMake, madeC, mLc, mYes, wipeS, backS, backE, mMaxDf, intsD, mIsK, mFrz, frzS, size_le, size_lt, cleanL_append, mMut, appendU, cont_slotE, List.any, List.all, hcl, h1]
  | true =>
    rw [q1] at h1
    by_cases c1 : 1 ≤ w.g
    · have j1 : (1 : Int) ≤ (w.g : Nat) := by omega
      by_cases c2 : 1 ≤ w.l
      · have j2 : (1 : Int) ≤ (w.l : Nat) := by omega
        by_cases c3 : 1 ≤ w.d
        · have j3 : (1 : Int) ≤ (w.d : Nat) := by omega
          by_cases c4 : w.d ≤ w.g
          · have j4 : ¬ ((w.g : Nat) : Int) < (w.d : Nat) := by omega
            cases fb <;> simp [runF, mSeq, mIf, mRet, mSkip, mVar, mC, mOp, mIsi, mNotV, mAndV, mOrV, mTest, mOr, mAnd, mNot, mCall0, lend_clean, back0, resD_clean, clean_non, clean_bl, clean_int, clean_str, clean_lst, clean_tup, clean_dct, clean_obj, cleanL_nil, cleanL_cons, mCons, mNil, ML.R.bind, ML.R.thenS, setS, lift2, cont_clean, cont_cell, cont_scr, cont_exn, contL, mCB, isSlot_clean, isSlot_cell, isSlot_exn, isSlot_slot, mAsg, gTp, gLs, gsCons, gsNil, gNm, mAug, tyD, kb_ii, kb_ib, kb_bi, kb_bb, kb_si, kb_ss, kb_tt, kb_ll, kb_tl, kb_sl, kb_dl, kb_il, kb_bl, mChain, mChain3, mSet, mSetOw, mRetN, mRaise, mDisp, noSlots, mDrop, mIter, mMeth, ofTy, mFor, forL, mPutF, mFld, putP, lookN, putN, flatB, flatD, max2D, min2D, mPart, mNoPart, mSl, orF, orC, gtD, ltD, leD, leI, geD, subI, addD_ii, modI, isN, isntN, mIfE, mNeg, mBreak, mCont, orE, boxed, ofStr_eq, mMake0, madeR, mOwn, methR, methC, backC, mCell, mSetKey, mSetIx, setL, mAugIx, mCall, mMake, madeC, mLc, mYes, wipeS, backS, backE, mMaxDf, intsD, mIsK, mFrz, frzS, size_le, size_lt, cleanL_append, mMut, appendU, cont_slotE, List.any, List.all, hcl, h1, p_from_on, j1, j2, j3, j4, i0, c1, c2, c3, c4, hf, listD]
          · have j4 : ((w.g : Nat) : Int) < (w.d : Nat) := by omega
            simp [runF, mSeq, mIf, mRet, mSkip, mVar, mC, mOp, mIsi, mNotV, mAndV, mOrV, mTest, mOr, mAnd, mNot, mCall0, lend_clean, back0, resD_clean, clean_non, clean_bl, clean_int, clean_str, clean_lst, clean_tup, clean_dct, clean_obj, cleanL_nil, cleanL_cons, mCons, mNil, ML.R.bind, ML.R.thenS, setS, lift2, cont_clean, cont_cell, cont_scr, cont_exn, contL, mCB, isSlot_clean, isSlot_cell, isSlot_exn, isSlot_slot, mAsg, gTp, gLs, gsCons, gsNil, gNm, mAug, tyD, kb_ii, kb_ib, kb_bi, kb_bb, kb_si, kb_ss, kb_tt, kb_ll, kb_tl, kb_sl, kb_dl, kb_il, kb_bl, mChain, mChain3, mSet, mSetOw, mRetN, mRaise, mDisp, noSlots, mDrop, mIter, mMeth, ofTy, mFor, forL, mPutF, mFld, putP, lookN, putN, flatB, flatD, max2D, min2D, mPart, mNoPart, mSl, orF, orC, gtD, ltD, leD, leI, geD, subI, addD_ii, modI, isN, isntN, mIfE, mNeg, mBreak, mCont, orE, boxed, ofStr_eq, mMake0, madeR, mOwn, methR, methC, backC, mCell, mSetKey, mSetIx, setL, mAugIx, mCall, mMake, madeC, mLc, mYes, wipeS, backS, backE, mMaxDf, intsD, mIsK, mFrz, frzS, size_le, size_lt, cleanL_append, mMut, appendU, cont_slotE, List.any, List.all, hcl, h1, p_from_on, j1, j2, j3, j4, i0, c1, c2, c3, c4]
        · have j3 : ¬ (1 : Int) ≤ (w.d : Nat) := by omega
          simp [runF, mSeq, mIf, mRet, mSkip, mVar, mC, mOp, mIsi, mNotV, mAndV, mOrV, mTest, mOr, mAnd, mNot, mCall0, lend_clean, back0, resD_clean, clean_non, clean_bl, clean_int, clean_str, clean_lst, clean_tup, clean_dct, clean_obj, cleanL_nil, cleanL_cons, mCons, mNil, ML.R.bind, ML.R.thenS, setS, lift2, cont_clean, cont_cell, cont_scr, cont_exn, contL, mCB, isSlot_clean, isSlot_cell, isSlot_exn, isSlot_slot, mAsg, gTp, gLs, gsCons, gsNil, gNm, mAug, tyD, kb_ii, kb_ib, kb_bi, kb_bb, kb_si, kb_ss, kb_tt, kb_ll, kb_tl, kb_sl, kb_dl, kb_il, kb_bl, mChain, mChain3, mSet, mSetOw, mRetN, mRaise, mDisp, noSlots, mDrop, mIter, mMeth, ofTy, mFor, forL, mPutF, mFld, putP, lookN, putN, flatB, flatD, max2D, min2D, mPart, mNoPart, mSl, orF, orC, gtD, ltD, leD, leI, geD, subI, addD_ii, modI, isN, isntN, mIfE, mNeg, mBreak, mCont, orE, boxed, ofStr_eq, mMake0, madeR, mOwn, methR, methC, backC, mCell, mSetKey, mSetIx, setL, mAugIx, mCall, mMake, madeC, mLc, mYes, wipeS, backS, backE, mMaxDf, intsD, mIsK, mFrz, frzS, size_le, size_lt, cleanL_append, mMut, appendU, cont_slotE, List.any, List.all, hcl, h1, p_from_on, j1, j2, j3, c1, c2, c3]
      · have j2 : ¬ (1 : Int) ≤ (w.l : Nat) := by omega
        simp [runF, mSeq, mIf, mRet, mSkip, mVar, mC, mOp, mIsi, mNotV, mAndV, mOrV, mTest, mOr, mAnd, mNot, mCall0, lend_clean, back0, resD_clean, clean_non, clean_bl, clean_int, clean_str, clean_lst, clean_tup, clean_dct, clean_obj, cleanL_nil, cleanL_cons, mCons, mNil, ML.R.bind, ML.R.thenS, setS, lift2, cont_clean, cont_cell, cont_scr, cont_exn, contL, mCB, isSlot_clean, isSlot_cell, isSlot_exn, isSlot_slot, mAsg, gTp, gLs, gsCons, gsNil, gNm, mAug, tyD, kb_ii, kb_ib, kb_bi, kb_bb, kb_si, kb_ss, kb_tt, kb_ll, kb_tl, kb_sl, kb_dl, kb_il, kb_bl, mChain, mChain3, mSet, mSetOw, mRetN, mRaise, mDisp, noSlots, mDrop, mIter, mMeth, ofTy, mFor, forL, mPutF, mFld, putP, lookN, putN, flatB, flatD, max2D, min2D, mPart, mNoPart, mSl, orF, orC, gtD, ltD, leD, leI, geD, subI, addD_ii, modI, isN, isntN, mIfE, mNeg, mBreak, mCont, orE, boxed, ofStr_eq, mMake0, madeR, mOwn, methR, methC, backC, mCell, mSetKey, mSetIx, setL, mAugIx, mCall, mMake, madeC, mLc, mYes, wipeS, backS, backE, mMaxDf, intsD, mIsK, mFrz, frzS, size_le, size_lt, cleanL_append, mMut, appendU, cont_slotE, List.any, List.all, hcl, h1, p_from_on, j1, j2, c1, c2]
    · have j1 : ¬ (1 : Int) ≤ (w.g : Nat) := by omega
      simp [runF, mSeq, mIf, mRet, mSkip, mVar, mC, mOp, mIsi, mNotV, mAndV, mOrV, mTest, mOr, mAnd, mNot, mCall0, lend_clean, back0, resD_clean, clean_non, clean_bl, clean_int, clean_str, clean_lst, clean_tup, clean_dct, clean_obj, cleanL_nil, cleanL_cons, mCons, mNil, ML.R.bind, ML.R.thenS, setS, lift2, cont_clean, cont_cell, cont_scr, cont_exn, contL, mCB, isSlot_clean, isSlot_cell, isSlot_exn, isSlot_slot, mAsg, gTp, gLs, gsCons, gsNil, gNm, mAug, tyD, kb_ii, kb_ib, kb_bi, kb_bb, kb_si, kb_ss, kb_tt, kb_ll, kb_tl, kb_sl, kb_dl, kb_il, kb_bl, mChain, mChain3, mSet, mSetOw, mRetN, mRaise, mDisp, noSlots, mDrop, mIter, mMeth, ofTy, mFor, forL, mPutF, mFld, putP, lookN, putN, flatB, flatD, max2D, min2D, mPart, mNoPart, mSl, orF, orC, gtD, ltD, leD, leI, geD, subI, addD_ii, modI, isN, isntN, mIfE, mNeg, mBreak, mCont, orE, boxed, ofStr_eq, mMake0, madeR, mOwn, methR, methC, backC, mCell, mSetKey, mSetIx, setL, mAugIx, mCall, mMake, madeC, mLc, mYes, wipeS, backS, backE, mMaxDf, intsD, mIsK, mFrz, frzS, size_le, size_lt, cleanL_append, mMut, appendU, cont_slotE, List.any, List.all, hcl, h1, p_from_on, j1, c1]
end K85
end
section
set_option Elab.async false
set_option linter.all false
set_option maxRecDepth 100000
set_option autoImplicit false
set_option maxHeartbeats 1000000
/-! K85t: a text read by the program, and by the law. -/
namespace K85
open PySem ML
noncomputable def rdW : List Str → Option NW
  | nm :: g :: l :: d :: e :: r => match num g, num l, num d, num e with
    | some g, some l, some d, some e => if (r.all fun w => (rdH w).isSome) = true then some ⟨nm, g, l, d, e, r.filterMap rdH⟩ else none
    | _, _, _, _ => none
  | _ => none
noncomputable def rdT (x : Str) : Option NW := rdW (Txt.split x " ")
def readR : Option NW → Rt
  | none => .exc ⟨3, [], []⟩ []
  | some w => if okW w = true then .ok (wkD w.wk) [] else .exc ⟨0, [], []⟩ []
theorem p_words {x : Str} (hl : x.length ≤ 100000) : m_words_of [.str x] [] = .ok (.lst ((Txt.split x " ").map D.str)) [] := by
  have hz := sizeLine_ge
  have lsp : (Str.ofString " ").length = 1 := by decide +kernel
  have hs : splitD (.str x) [.str " "] = some (.lst ((Txt.split x " ").map D.str)) := by
    simp only [splitD]
    rw [if_pos ⟨by rw [lsp]; rfl, by omega⟩]
  have hc := cleanL_strs (Txt.split x " ")
  generalize (Txt.split x " ").map D.str = ds at hs hc ⊢
  unfold m_words_of b_words_of
  simp [runF, mSeq, mIf, mRet, mSkip, mVar, mC, mOp, mIsi, mNotV, mAndV, mOrV, mTest, mOr, mAnd, mNot, mCall0, lend_clean, back0, resD_clean, clean_non, clean_bl, clean_int, clean_str, clean_lst, clean_tup, clean_dct, clean_obj, cleanL_nil, cleanL_cons, mCons, mNil, ML.R.bind, ML.R.thenS, setS, lift2, cont_clean, cont_cell, cont_scr, cont_exn, contL, mCB, isSlot_clean, isSlot_cell, isSlot_exn, isSlot_slot, mAsg, gTp, gLs, gsCons, gsNil, gNm, mAug, tyD, kb_ii, kb_ib, kb_bi, kb_bb, kb_si, kb_ss, kb_tt, kb_ll, kb_tl, kb_sl, kb_dl, kb_il, kb_bl, mChain, mChain3, mSet, mSetOw, mRetN, mRaise, mDisp, noSlots, mDrop, mIter, mMeth, ofTy, mFor, forL, mPutF, mFld, putP, lookN, putN, flatB, flatD, max2D, min2D, mPart, mNoPart, mSl, orF, orC, gtD, ltD, leD, leI, geD, subI, addD_ii, modI, isN, isntN, mIfE, mNeg, mBreak, mCont, orE, boxed, ofStr_eq, mMake0, madeR, mOwn, methR, methC, backC, mCell, mSetKey, mSetIx, setL, mAugIx, mCall, mMake, madeC, mLc, mYes, wipeS, backS, backE, mMaxDf, intsD, mIsK, mFrz, frzS, size_le, size_lt, cleanL_append, mMut, appendU, cont_slotE, List.any, List.all, hs, hc]
/-- the holds of words -/
def hO : Option NHo → D
  | some h => hoD (hoN h)
  | none => .non
theorem map_hO : ∀ {r : List Str}, (r.all fun w => (rdH w).isSome) = true → (r.map fun w => hO (rdH w)) = hosD (r.filterMap rdH)
  | [], _ => rfl
  | w :: r, h => by
    rw [List.all_cons, Bool.and_eq_true] at h
    obtain ⟨a, ha⟩ := Option.isSome_iff_exists.mp h.1
    rw [List.map_cons, List.filterMap_cons, ha, map_hO h.2]
    rfl
theorem p_readT {x : Str} (hl : x.length ≤ 10000) : m_read_work [.str x] [] = readR (rdT x) := by
  have hw := p_words (x := x) (by omega)
  have hz := sizeLine_ge
  have hlen : ∀ p ∈ Txt.split x " ", p.length ≤ 10000 := fun p hp => Nat.le_trans (split_len hp) hl
  have hcnt := split_count x
  unfold rdT
  generalize Txt.split x " " = ws at hw hlen hcnt ⊢
  have hc := cleanL_strs ws
  -- a list of fewer than five words
  have few : ws.length < 5 → m_read_work [.str x] [] = .exc ⟨3, [], []⟩ [] := fun h => by
    have h5 : (((ws.map D.str).length : Nat) : Int) < 5 := by simp; omega
    generalize ws.map D.str = ds at hw hc h5
    unfold m_read_work b_read_work
    simp [runF, mSeq, mIf, mRet, mSkip, mVar, mC, mOp, mIsi, mNotV, mAndV, mOrV, mTest, mOr, mAnd, mNot, mCall0, lend_clean, back0, resD_clean, clean_non, clean_bl, clean_int, clean_str, clean_lst, clean_tup, clean_dct, clean_obj, cleanL_nil, cleanL_cons, mCons, mNil, ML.R.bind, ML.R.thenS, setS, lift2, cont_clean, cont_cell, cont_scr, cont_exn, contL, mCB, isSlot_clean, isSlot_cell, isSlot_exn, isSlot_slot, mAsg, gTp, gLs, gsCons, gsNil, gNm, mAug, tyD, kb_ii, kb_ib, kb_bi, kb_bb, kb_si, kb_ss, kb_tt, kb_ll, kb_tl, kb_sl, kb_dl, kb_il, kb_bl, mChain, mChain3, mSet, mSetOw, mRetN, mRaise, mDisp, noSlots, mDrop, mIter, mMeth, ofTy, mFor, forL, mPutF, mFld, putP, lookN, putN, flatB, flatD, max2D, min2D, mPart, mNoPart, mSl, orF, orC, gtD, ltD, leD, leI, geD, subI, addD_ii, modI, isN, isntN, mIfE, mNeg, mBreak, mCont, orE, boxed, ofStr_eq, mMake0, madeR, mOwn, methR, methC, backC, mCell, mSetKey, mSetIx, setL, mAugIx, mCall, mMake, madeC, mLc, mYes, wipeS, backS, backE, mMaxDf, intsD, mIsK, mFrz, frzS, size_le, size_lt, cleanL_append, mMut, appendU, cont_slotE, List.any, List.all, hc, hw, lenD, h5]
  match ws, hw, hlen, hc, few, hcnt with
  | [], _, _, _, few, _ => exact few (by decide)
  | [_], _, _, _, few, _ => exact few (by simp)
  | [_, _], _, _, _, few, _ => exact few (by simp)
  | [_, _, _], _, _, _, few, _ => exact few (by simp)
  | [_, _, _, _], _, _, _, few, _ => exact few (by simp)
  | nm :: g :: l :: d :: e :: r, hw, hlen, hc, _, hcnt =>
    have hd5 : ((nm :: g :: l :: d :: e :: r).map D.str).drop 5 = r.map D.str := rfl
    have hd4 : (((nm :: g :: l :: d :: e :: r).map D.str).drop 1).take (5 - 1) = [g, l, d, e].map D.str := rfl
    have hx0 : ixD (.lst ((nm :: g :: l :: d :: e :: r).map D.str)) (.int 0) = some (.str nm) := ixL (k := 0) rfl
    have hlen5 : 5 ≤ ((nm :: g :: l :: d :: e :: r).map D.str).length := by simp
    have hrl : r.length ≤ 10001 := by simp at hcnt; omega
    generalize hds : (nm :: g :: l :: d :: e :: r).map D.str = ds at hw hc hd5 hd4 hx0 hlen5
    have h5 : ¬ (ds.length : Int) < 5 := by omega
    have sl1 : slL (.lst ds) (some 1) (some 5) = some (.lst ((ds.drop 1).take (5 - 1))) := slL_mid ds 1 5 hlen5
    have sl2 : slL (.lst ds) (some 5) none = some (.lst (ds.drop 5)) := slL_from ds 5
    rw [hd4] at sl1
    rw [hd5] at sl2
    have c4 := cleanL_strs [g, l, d, e]
    have c5 := cleanL_strs r
    have lc1 := lcX_or (g := gNm 7) (mt := mYes) (me := mCall0 m_number_in [] (mCons (mVar 7) mNil)) (vs := [7]) D.str (fun w => nO (num w)) (fun w => (num w).isSome) ⟨3, [], []⟩ ⟨[.fz (.str x), .fz (.lst ds), .no, .no, .no, .no, .no, .no], []⟩ [g, l, d, e] [] (by simp; omega) fun w hw => by
      have h1 := p_num (w := w) (by
        have := hlen w (by simp at hw ⊢; rcases hw with h | h | h | h <;> simp [h])
        omega)
      refine ⟨⟨[.fz (.str x), .fz (.lst ds), .no, .no, .no, .no, .no, .fz (.str w)], []⟩, ⟨[.fz (.str x), .fz (.lst ds), .no, .no, .no, .no, .no, .fz (.str w)], []⟩, ⟨[.fz (.str x), .fz (.lst ds), .no, .no, .no, .no, .no, .fz (.str w)], []⟩, rfl, rfl, ?_, isSlot_clean (clean_nO _), rfl⟩
      cases q : num w with
      | none => rw [q] at h1; simp [runF, mSeq, mIf, mRet, mSkip, mVar, mC, mOp, mIsi, mNotV, mAndV, mOrV, mTest, mOr, mAnd, mNot, mCall0, lend_clean, back0, resD_clean, clean_non, clean_bl, clean_int, clean_str, clean_lst, clean_tup, clean_dct, clean_obj, cleanL_nil, cleanL_cons, mCons, mNil, ML.R.bind, ML.R.thenS, setS, lift2, cont_clean, cont_cell, cont_scr, cont_exn, contL, mCB, isSlot_clean, isSlot_cell, isSlot_exn, isSlot_slot, mAsg, gTp, gLs, gsCons, gsNil, gNm, mAug, tyD, kb_ii, kb_ib, kb_bi, kb_bb, kb_si, kb_ss, kb_tt, kb_ll, kb_tl, kb_sl, kb_dl, kb_il, kb_bl, mChain, mChain3, mSet, mSetOw, mRetN, mRaise, mDisp, noSlots, mDrop, mIter, mMeth, ofTy, mFor, forL, mPutF, mFld, putP, lookN, putN, flatB, flatD, max2D, min2D, mPart, mNoPart, mSl, orF, orC, gtD, ltD, leD, leI, geD, subI, addD_ii, modI, isN, isntN, mIfE, mNeg, mBreak, mCont, orE, boxed, ofStr_eq, mMake0, madeR, mOwn, methR, methC, backC, mCell, mSetKey, mSetIx, setL, mAugIx, mCall, mMake, madeC, mLc, mYes, wipeS, backS, backE, mMaxDf, intsD, mIsK, mFrz, frzS, size_le, size_lt, cleanL_append, mMut, appendU, cont_slotE, List.any, List.all, h1, numR]
      | some n => rw [q] at h1; simp [runF, mSeq, mIf, mRet, mSkip, mVar, mC, mOp, mIsi, mNotV, mAndV, mOrV, mTest, mOr, mAnd, mNot, mCall0, lend_clean, back0, resD_clean, clean_non, clean_bl, clean_int, clean_str, clean_lst, clean_tup, clean_dct, clean_obj, cleanL_nil, cleanL_cons, mCons, mNil, ML.R.bind, ML.R.thenS, setS, lift2, cont_clean, cont_cell, cont_scr, cont_exn, contL, mCB, isSlot_clean, isSlot_cell, isSlot_exn, isSlot_slot, mAsg, gTp, gLs, gsCons, gsNil, gNm, mAug, tyD, kb_ii, kb_ib, kb_bi, kb_bb, kb_si, kb_ss, kb_tt, kb_ll, kb_tl, kb_sl, kb_dl, kb_il, kb_bl, mChain, mChain3, mSet, mSetOw, mRetN, mRaise, mDisp, noSlots, mDrop, mIter, mMeth, ofTy, mFor, forL, mPutF, mFld, putP, lookN, putN, flatB, flatD, max2D, min2D, mPart, mNoPart, mSl, orF, orC, gtD, ltD, leD, leI, geD, subI, addD_ii, modI, isN, isntN, mIfE, mNeg, mBreak, mCont, orE, boxed, ofStr_eq, mMake0, madeR, mOwn, methR, methC, backC, mCell, mSetKey, mSetIx, setL, mAugIx, mCall, mMake, madeC, mLc, mYes, wipeS, backS, backE, mMaxDf, intsD, mIsK, mFrz, frzS, size_le, size_lt, cleanL_append, mMut, appendU, cont_slotE, List.any, List.all, h1, numR, nO]
    have lc2 : ∀ g l d e : Nat, lcX (gNm 7) mYes (mCall0 m_read_hold [] (mCons (mVar 7) mNil)) [7] (r.map D.str) [] ⟨[.fz (.str x), .fz (.lst ds), .no, .fz (.int g), .fz (.int l), .fz (.int d), .fz (.int e), .no], []⟩ =
        if (r.all fun w => (rdH w).isSome) = true then .ok (r.map fun w => hO (rdH w)) ⟨[.fz (.str x), .fz (.lst ds), .no, .fz (.int g), .fz (.int l), .fz (.int d), .fz (.int e), .no], []⟩ else .exc ⟨3, [], []⟩ ⟨[.fz (.str x), .fz (.lst ds), .no, .fz (.int g), .fz (.int l), .fz (.int d), .fz (.int e), .no], []⟩ := fun g' l' d' e' => by
      have := lcX_or (g := gNm 7) (mt := mYes) (me := mCall0 m_read_hold [] (mCons (mVar 7) mNil)) (vs := [7]) D.str (fun w => hO (rdH w)) (fun w => (rdH w).isSome) ⟨3, [], []⟩ ⟨[.fz (.str x), .fz (.lst ds), .no, .fz (.int g'), .fz (.int l'), .fz (.int d'), .fz (.int e'), .no], []⟩ r [] (by simp; omega) fun w hw => by
        have h1 := p_rdH (w := w) (by
          have := hlen w (by simp; right; right; right; right; right; exact hw)
          omega)
        refine ⟨⟨[.fz (.str x), .fz (.lst ds), .no, .fz (.int g'), .fz (.int l'), .fz (.int d'), .fz (.int e'), .fz (.str w)], []⟩, ⟨[.fz (.str x), .fz (.lst ds), .no, .fz (.int g'), .fz (.int l'), .fz (.int d'), .fz (.int e'), .fz (.str w)], []⟩, ⟨[.fz (.str x), .fz (.lst ds), .no, .fz (.int g'), .fz (.int l'), .fz (.int d'), .fz (.int e'), .fz (.str w)], []⟩, rfl, rfl, ?_, ?_, rfl⟩
        · cases q : rdH w with
          | none => rw [q] at h1; simp [runF, mSeq, mIf, mRet, mSkip, mVar, mC, mOp, mIsi, mNotV, mAndV, mOrV, mTest, mOr, mAnd, mNot, mCall0, lend_clean, back0, resD_clean, clean_non, clean_bl, clean_int, clean_str, clean_lst, clean_tup, clean_dct, clean_obj, cleanL_nil, cleanL_cons, mCons, mNil, ML.R.bind, ML.R.thenS, setS, lift2, cont_clean, cont_cell, cont_scr, cont_exn, contL, mCB, isSlot_clean, isSlot_cell, isSlot_exn, isSlot_slot, mAsg, gTp, gLs, gsCons, gsNil, gNm, mAug, tyD, kb_ii, kb_ib, kb_bi, kb_bb, kb_si, kb_ss, kb_tt, kb_ll, kb_tl, kb_sl, kb_dl, kb_il, kb_bl, mChain, mChain3, mSet, mSetOw, mRetN, mRaise, mDisp, noSlots, mDrop, mIter, mMeth, ofTy, mFor, forL, mPutF, mFld, putP, lookN, putN, flatB, flatD, max2D, min2D, mPart, mNoPart, mSl, orF, orC, gtD, ltD, leD, leI, geD, subI, addD_ii, modI, isN, isntN, mIfE, mNeg, mBreak, mCont, orE, boxed, ofStr_eq, mMake0, madeR, mOwn, methR, methC, backC, mCell, mSetKey, mSetIx, setL, mAugIx, mCall, mMake, madeC, mLc, mYes, wipeS, backS, backE, mMaxDf, intsD, mIsK, mFrz, frzS, size_le, size_lt, cleanL_append, mMut, appendU, cont_slotE, List.any, List.all, h1, rdR]
          | some h =>
            have hch := clean_ho (hoN h)
            rw [q] at h1
            simp [runF, mSeq, mIf, mRet, mSkip, mVar, mC, mOp, mIsi, mNotV, mAndV, mOrV, mTest, mOr, mAnd, mNot, mCall0, lend_clean, back0, resD_clean, clean_non, clean_bl, clean_int, clean_str, clean_lst, clean_tup, clean_dct, clean_obj, cleanL_nil, cleanL_cons, mCons, mNil, ML.R.bind, ML.R.thenS, setS, lift2, cont_clean, cont_cell, cont_scr, cont_exn, contL, mCB, isSlot_clean, isSlot_cell, isSlot_exn, isSlot_slot, mAsg, gTp, gLs, gsCons, gsNil, gNm, mAug, tyD, kb_ii, kb_ib, kb_bi, kb_bb, kb_si, kb_ss, kb_tt, kb_ll, kb_tl, kb_sl, kb_dl, kb_il, kb_bl, mChain, mChain3, mSet, mSetOw, mRetN, mRaise, mDisp, noSlots, mDrop, mIter, mMeth, ofTy, mFor, forL, mPutF, mFld, putP, lookN, putN, flatB, flatD, max2D, min2D, mPart, mNoPart, mSl, orF, orC, gtD, ltD, leD, leI, geD, subI, addD_ii, modI, isN, isntN, mIfE, mNeg, mBreak, mCont, orE, boxed, ofStr_eq, mMake0, madeR, mOwn, methR, methC, backC, mCell, mSetKey, mSetIx, setL, mAugIx, mCall, mMake, madeC, mLc, mYes, wipeS, backS, backE, mMaxDf, intsD, mIsK, mFrz, frzS, size_le, size_lt, cleanL_append, mMut, appendU, cont_slotE, List.any, List.all, h1, rdR, hO, hch]
        · cases q : rdH w with
          | none => rfl
          | some h => exact isSlot_clean (clean_ho (hoN h))
      rw [List.nil_append] at this
      exact this
    generalize hg4 : [g, l, d, e].map D.str = g4 at sl1 lc1 c4
    generalize r.map D.str = rr at sl2 lc2 c5
    rw [List.nil_append] at lc1
    cases q1 : num g with
    | none =>
      have : ([g, l, d, e].all fun w => (num w).isSome) = false := by simp [q1]
      rw [this, if_neg Bool.false_ne_true] at lc1
      unfold m_read_work b_read_work rdW
      simp [runF, mSeq, mIf, mRet, mSkip, mVar, mC, mOp, mIsi, mNotV, mAndV, mOrV, mTest, mOr, mAnd, mNot, mCall0, lend_clean, back0, resD_clean, clean_non, clean_bl, clean_int, clean_str, clean_lst, clean_tup, clean_dct, clean_obj, cleanL_nil, cleanL_cons, mCons, mNil, ML.R.bind, ML.R.thenS, setS, lift2, cont_clean, cont_cell, cont_scr, cont_exn, contL, mCB, isSlot_clean, isSlot_cell, isSlot_exn, isSlot_slot, mAsg, gTp, gLs, gsCons, gsNil, gNm, mAug, tyD, kb_ii, kb_ib, kb_bi, kb_bb, kb_si, kb_ss, kb_tt, kb_ll, kb_tl, kb_sl, kb_dl, kb_il, kb_bl, mChain, mChain3, mSet, mSetOw, mRetN, mRaise, mDisp, noSlots, mDrop, mIter, mMeth, ofTy, mFor, forL, mPutF, mFld, putP, lookN, putN, flatB, flatD, max2D, min2D, mPart, mNoPart, mSl, orF, orC, gtD, ltD, leD, leI, geD, subI, addD_ii, modI, isN, isntN, mIfE, mNeg, mBreak, mCont, orE, boxed, ofStr_eq, mMake0, madeR, mOwn, methR, methC, backC, mCell, mSetKey, mSetIx, setL, mAugIx, mCall, mMake, madeC, mLc, mYes, wipeS, backS, backE, mMaxDf, intsD, mIsK, mFrz, frzS, size_le, size_lt, cleanL_append, mMut, appendU, cont_slotE, List.any, List.all, hc, hw, lenD, h5, sl1, c4, mLcX, lc1, q1, readR]
    | some g' =>
      cases q2 : num l with
      | none =>
        have : ([g, l, d, e].all fun w => (num w).isSome) = false := by simp [q2]
        rw [this, if_neg Bool.false_ne_true] at lc1
        unfold m_read_work b_read_work rdW
        simp [runF, mSeq, mIf, mRet, mSkip, mVar, mC, mOp, mIsi, mNotV, mAndV, mOrV, mTest, mOr, mAnd, mNot, mCall0, lend_clean, back0, resD_clean, clean_non, clean_bl, clean_int, clean_str, clean_lst, clean_tup, clean_dct, clean_obj, cleanL_nil, cleanL_cons, mCons, mNil, ML.R.bind, ML.R.thenS, setS, lift2, cont_clean, cont_cell, cont_scr, cont_exn, contL, mCB, isSlot_clean, isSlot_cell, isSlot_exn, isSlot_slot, mAsg, gTp, gLs, gsCons, gsNil, gNm, mAug, tyD, kb_ii, kb_ib, kb_bi, kb_bb, kb_si, kb_ss, kb_tt, kb_ll, kb_tl, kb_sl, kb_dl, kb_il, kb_bl, mChain, mChain3, mSet, mSetOw, mRetN, mRaise, mDisp, noSlots, mDrop, mIter, mMeth, ofTy, mFor, forL, mPutF, mFld, putP, lookN, putN, flatB, flatD, max2D, min2D, mPart, mNoPart, mSl, orF, orC, gtD, ltD, leD, leI, geD, subI, addD_ii, modI, isN, isntN, mIfE, mNeg, mBreak, mCont, orE, boxed, ofStr_eq, mMake0, madeR, mOwn, methR, methC, backC, mCell, mSetKey, mSetIx, setL, mAugIx, mCall, mMake, madeC, mLc, mYes, wipeS, backS, backE, mMaxDf, intsD, mIsK, mFrz, frzS, size_le, size_lt, cleanL_append, mMut, appendU, cont_slotE, List.any, List.all, hc, hw, lenD, h5, sl1, c4, mLcX, lc1, q1, q2, readR]
      | some l' =>
        cases q3 : num d with
        | none =>
          have : ([g, l, d, e].all fun w => (num w).isSome) = false := by simp [q3]
          rw [this, if_neg Bool.false_ne_true] at lc1
          unfold m_read_work b_read_work rdW
          simp [runF, mSeq, mIf, mRet, mSkip, mVar, mC, mOp, mIsi, mNotV, mAndV, mOrV, mTest, mOr, mAnd, mNot, mCall0, lend_clean, back0, resD_clean, clean_non, clean_bl, clean_int, clean_str, clean_lst, clean_tup, clean_dct, clean_obj, cleanL_nil, cleanL_cons, mCons, mNil, ML.R.bind, ML.R.thenS, setS, lift2, cont_clean, cont_cell, cont_scr, cont_exn, contL, mCB, isSlot_clean, isSlot_cell, isSlot_exn, isSlot_slot, mAsg, gTp, gLs, gsCons, gsNil, gNm, mAug, tyD, kb_ii, kb_ib, kb_bi, kb_bb, kb_si, kb_ss, kb_tt, kb_ll, kb_tl, kb_sl, kb_dl, kb_il, kb_bl, mChain, mChain3, mSet, mSetOw, mRetN, mRaise, mDisp, noSlots, mDrop, mIter, mMeth, ofTy, mFor, forL, mPutF, mFld, putP, lookN, putN, flatB, flatD, max2D, min2D, mPart, mNoPart, mSl, orF, orC, gtD, ltD, leD, leI, geD, subI, addD_ii, modI, isN, isntN, mIfE, mNeg, mBreak, mCont, orE, boxed, ofStr_eq, mMake0, madeR, mOwn, methR, methC, backC, mCell, mSetKey, mSetIx, setL, mAugIx, mCall, mMake, madeC, mLc, mYes, wipeS, backS, backE, mMaxDf, intsD, mIsK, mFrz, frzS, size_le, size_lt, cleanL_append, mMut, appendU, cont_slotE, List.any, List.all, hc, hw, lenD, h5, sl1, c4, mLcX, lc1, q1, q2, q3, readR]
        | some d' =>
          cases q4 : num e with
          | none =>
            have : ([g, l, d, e].all fun w => (num w).isSome) = false := by simp [q4]
            rw [this, if_neg Bool.false_ne_true] at lc1
            unfold m_read_work b_read_work rdW
            simp [runF, mSeq, mIf, mRet, mSkip, mVar, mC, mOp, mIsi, mNotV, mAndV, mOrV, mTest, mOr, mAnd, mNot, mCall0, lend_clean, back0, resD_clean, clean_non, clean_bl, clean_int, clean_str, clean_lst, clean_tup, clean_dct, clean_obj, cleanL_nil, cleanL_cons, mCons, mNil, ML.R.bind, ML.R.thenS, setS, lift2, cont_clean, cont_cell, cont_scr, cont_exn, contL, mCB, isSlot_clean, isSlot_cell, isSlot_exn, isSlot_slot, mAsg, gTp, gLs, gsCons, gsNil, gNm, mAug, tyD, kb_ii, kb_ib, kb_bi, kb_bb, kb_si, kb_ss, kb_tt, kb_ll, kb_tl, kb_sl, kb_dl, kb_il, kb_bl, mChain, mChain3, mSet, mSetOw, mRetN, mRaise, mDisp, noSlots, mDrop, mIter, mMeth, ofTy, mFor, forL, mPutF, mFld, putP, lookN, putN, flatB, flatD, max2D, min2D, mPart, mNoPart, mSl, orF, orC, gtD, ltD, leD, leI, geD, subI, addD_ii, modI, isN, isntN, mIfE, mNeg, mBreak, mCont, orE, boxed, ofStr_eq, mMake0, madeR, mOwn, methR, methC, backC, mCell, mSetKey, mSetIx, setL, mAugIx, mCall, mMake, madeC, mLc, mYes, wipeS, backS, backE, mMaxDf, intsD, mIsK, mFrz, frzS, size_le, size_lt, cleanL_append, mMut, appendU, cont_slotE, List.any, List.all, hc, hw, lenD, h5, sl1, c4, mLcX, lc1, q1, q2, q3, q4, readR]
          | some e' =>
            have : ([g, l, d, e].all fun w => (num w).isSome) = true := by simp [q1, q2, q3, q4]
            rw [this, if_pos rfl] at lc1
            have hm4 : ([g, l, d, e].map fun w => nO (num w)) = [.int (g' : Nat), .int (l' : Nat), .int (d' : Nat), .int (e' : Nat)] := by simp [q1, q2, q3, q4, nO]
            rw [hm4] at lc1
            have lc2 := lc2 g' l' d' e'
            cases hr : r.all fun w => (rdH w).isSome with
            | false =>
              rw [hr, if_neg Bool.false_ne_true] at lc2
              unfold m_read_work b_read_work rdW
              simp only [q1, q2, q3, q4, hr]
              simp [runF, mSeq, mIf, mRet, mSkip, mVar, mC, mOp, mIsi, mNotV, mAndV, mOrV, mTest, mOr, mAnd, mNot, mCall0, lend_clean, back0, resD_clean, clean_non, clean_bl, clean_int, clean_str, clean_lst, clean_tup, clean_dct, clean_obj, cleanL_nil, cleanL_cons, mCons, mNil, ML.R.bind, ML.R.thenS, setS, lift2, cont_clean, cont_cell, cont_scr, cont_exn, contL, mCB, isSlot_clean, isSlot_cell, isSlot_exn, isSlot_slot, mAsg, gTp, gLs, gsCons, gsNil, gNm, mAug, tyD, kb_ii, kb_ib, kb_bi, kb_bb, kb_si, kb_ss, kb_tt, kb_ll, kb_tl, kb_sl, kb_dl, kb_il, kb_bl, mChain, mChain3, mSet, mSetOw, mRetN, mRaise, mDisp, noSlots, mDrop, mIter, mMeth, ofTy, mFor, forL, mPutF, mFld, putP, lookN, putN, flatB, flatD, max2D, min2D, mPart, mNoPart, mSl, orF, orC, gtD, ltD, leD, leI, geD, subI, addD_ii, modI, isN, isntN, mIfE, mNeg, mBreak, mCont, orE, boxed, ofStr_eq, mMake0, madeR, mOwn, methR, methC, backC, mCell, mSetKey, mSetIx, setL, mAugIx, mCall, mMake, madeC, mLc, mYes, wipeS, backS, backE, mMaxDf, intsD, mIsK, mFrz, frzS, size_le, size_lt, cleanL_append, mMut, appendU, cont_slotE, List.any, List.all, hc, hw, lenD, h5, sl1, sl2, c4, c5, mLcX, lc1, lc2, readR]
            | true =>
              rw [hr, if_pos rfl, map_hO hr] at lc2
              have hnew := p_newW (w := ⟨nm, g', l', d', e', r.filterMap rdH⟩) (by
                have := hlen nm (by simp)
                show nm.length ≤ 100000
                omega) fun h hh => by
                  obtain ⟨w, hw1, hw2⟩ := List.mem_filterMap.mp hh
                  have h1 := hlen w (by simp; right; right; right; right; right; exact hw1)
                  have h2 := (part_mem (w := w) e58).1
                  have h3 : h.1 = (Txt.partition w ":").1 := by
                    unfold rdH at hw2
                    split at hw2
                    · cases hw2; rfl
                    · cases hw2
                  rw [h3]
                  omega
              have hres := resO_wk (NW.wk ⟨nm, g', l', d', e', r.filterMap rdH⟩)
              have hcw := clean_wk (NW.wk ⟨nm, g', l', d', e', r.filterMap rdH⟩)
              have hch := cleanL_hos (r.filterMap rdH)
              unfold m_read_work b_read_work rdW
              simp only [q1, q2, q3, q4, hr, if_true]
              unfold readR
              simp only
              cases hk : okW ⟨nm, g', l', d', e', r.filterMap rdH⟩ with
              | false =>
                rw [hk, if_neg Bool.false_ne_true] at hnew
                simp only at hnew
                generalize hosD (r.filterMap rdH) = hsD at lc2 hnew hch
                simp [runF, mSeq, mIf, mRet, mSkip, mVar, mC, mOp, mIsi, mNotV, mAndV, mOrV, mTest, mOr, mAnd, mNot, mCall0, lend_clean, back0, resD_clean, clean_non, clean_bl, clean_int, clean_str, clean_lst, clean_tup, clean_dct, clean_obj, cleanL_nil, cleanL_cons, mCons, mNil, ML.R.bind, ML.R.thenS, setS, lift2, cont_clean, cont_cell, cont_scr, cont_exn, contL, mCB, isSlot_clean, isSlot_cell, isSlot_exn, isSlot_slot, mAsg, gTp, gLs, gsCons, gsNil, gNm, mAug, tyD, kb_ii, kb_ib, kb_bi, kb_bb, kb_si, kb_ss, kb_tt, kb_ll, kb_tl, kb_sl, kb_dl, kb_il, kb_bl, mChain, mChain3, mSet, mSetOw, mRetN, mRaise, mDisp, noSlots, mDrop, mIter, mMeth, ofTy, mFor, forL, mPutF, mFld, putP, lookN, putN, flatB, flatD, max2D, min2D, mPart, mNoPart, mSl, orF, orC, gtD, ltD, leD, leI, geD, subI, addD_ii, modI, isN, isntN, mIfE, mNeg, mBreak, mCont, orE, boxed, ofStr_eq, mMake0, madeR, mOwn, methR, methC, backC, mCell, mSetKey, mSetIx, setL, mAugIx, mCall, mMake, madeC, mLc, mYes, wipeS, backS, backE, mMaxDf, intsD, mIsK, mFrz, frzS, size_le, size_lt, cleanL_append, mMut, appendU, cont_slotE, List.any, List.all, hc, hw, lenD, h5, sl1, sl2, c4, c5, mLcX, lc1, lc2, hx0, hnew, hch]
              | true =>
                rw [hk, if_pos rfl] at hnew
                simp only at hnew
                generalize wkD (NW.wk ⟨nm, g', l', d', e', r.filterMap rdH⟩) = wd at hnew hres hcw ⊢
                generalize hosD (r.filterMap rdH) = hsD at lc2 hnew hch
                simp [runF, mSeq, mIf, mRet, mSkip, mVar, mC, mOp, mIsi, mNotV, mAndV, mOrV, mTest, mOr, mAnd, mNot, mCall0, lend_clean, back0, resD_clean, clean_non, clean_bl, clean_int, clean_str, clean_lst, clean_tup, clean_dct, clean_obj, cleanL_nil, cleanL_cons, mCons, mNil, ML.R.bind, ML.R.thenS, setS, lift2, cont_clean, cont_cell, cont_scr, cont_exn, contL, mCB, isSlot_clean, isSlot_cell, isSlot_exn, isSlot_slot, mAsg, gTp, gLs, gsCons, gsNil, gNm, mAug, tyD, kb_ii, kb_ib, kb_bi, kb_bb, kb_si, kb_ss, kb_tt, kb_ll, kb_tl, kb_sl, kb_dl, kb_il, kb_bl, mChain, mChain3, mSet, mSetOw, mRetN, mRaise, mDisp, noSlots, mDrop, mIter, mMeth, ofTy, mFor, forL, mPutF, mFld, putP, lookN, putN, flatB, flatD, max2D, min2D, mPart, mNoPart, mSl, orF, orC, gtD, ltD, leD, leI, geD, subI, addD_ii, modI, isN, isntN, mIfE, mNeg, mBreak, mCont, orE, boxed, ofStr_eq, mMake0, madeR, mOwn, methR, methC, backC, mCell, mSetKey, mSetIx, setL, mAugIx, mCall, mMake, madeC, mLc, mYes, wipeS, backS, backE, mMaxDf, intsD, mIsK, mFrz, frzS, size_le, size_lt, cleanL_append, mMut, appendU, cont_slotE, List.any, List.all, hc, hw, lenD, h5, sl1, sl2, c4, c5, mLcX, lc1, lc2, hx0, hnew, hres, hcw, hch]
end K85
end
section
set_option Elab.async false
set_option linter.all false
set_option maxRecDepth 100000
set_option autoImplicit false
set_option maxHeartbeats 2000000
/-! K85u: a text read by the law. -/
namespace K85
open PySem ML
def tN (a b : NHo) : Bool := togB (hoN a) (hoN b)
theorem togB_symm (a b : Ho) : togB a b = togB b a := by
  unfold togB
  rw [Bool.or_comm (decide (a.2.2 ≤ b.2.1)), Bool.or_comm (inB a b), show decide (a.1 = b.1) = decide (b.1 = a.1) from decide_eq_decide.mpr ⟨Eq.symm, Eq.symm⟩]
def tupD (w : NW) : D := .tup [.str w.nm, .int (w.g : Nat), .int (w.l : Nat), .int (w.d : Nat), .int (w.e : Nat), .lst (hosD w.hs)]
def lawD : Option NW → D
  | none => .str "text"
  | some w => if okW w = true then tupD w else .str "work"
theorem in_none (os : List (Option Nat)) : inD false .non (.lst (os.map nO)) = some (.bl (!os.all Option.isSome)) := by
  have h1 : (os.map nO).all flatB = true := by
    induction os with
    | nil => rfl
    | cons o os ih => rw [List.map_cons, List.all_cons, ih]; cases o <;> rfl
  have h2 : inF .non (os.map nO) = !os.all Option.isSome := by
    clear h1
    induction os with
    | nil => rfl
    | cons o os ih =>
      unfold inF at ih ⊢
      rw [List.map_cons, List.any_cons, ih, List.all_cons]
      cases o <;> rfl
  have e0 : inSg false .non (.lst (os.map nO)) = none := rfl
  have e1 : inSq false .non (.lst (os.map nO)) = some (.bl (!os.all Option.isSome)) := by
    unfold inSq
    simp only []
    rw [h1, h2]
    simp [flatB, flatD]
  show (match inSg false .non (.lst (os.map nO)) with | some d => some d | none => (orF (inSq false) (inDc false)) .non (.lst (os.map nO))) = _
  rw [e0]
  show (match inSq false .non (.lst (os.map nO)) with | some d => some d | none => _) = _
  rw [e1]
theorem in_none3 (t : Str) (a b : Option Nat) : inD false .non (.tup [.str t, nO a, nO b]) = some (.bl (!(a.isSome && b.isSome))) := by
  cases a <;> cases b <;> rfl
theorem sl15 (ds : List D) : slL (.lst ds) (some 1) (some 5) = some (.lst ((ds.drop 1).take 4)) := by
  show some (D.lst ((ds.drop (HT.sIx ds.length 0 (some ((1 : Nat) : Int)))).take (HT.sIx ds.length ds.length (some ((5 : Nat) : Int)) - HT.sIx ds.length 0 (some ((1 : Nat) : Int))))) = _
  rw [HT.sIx_nat, HT.sIx_nat]
  match ds with
  | [] => rfl
  | [_] => rfl
  | [_, _] => rfl
  | [_, _, _] => rfl
  | [_, _, _, _] => rfl
  | a :: b :: c :: d :: e :: r =>
    have h1 : min 1 (a :: b :: c :: d :: e :: r).length = 1 := by simp
    have h5 : min 5 (a :: b :: c :: d :: e :: r).length = 5 := by simp
    rw [h1, h5]
abbrev stR (x : Str) (ds ns : List D) (os : List NHo) (a4 a5 b2 b3 b4 b5 b6 b7 : Sl) : S := ⟨[.fz (.str x), .fz (.lst ds), .fz (.lst ns), .ow (.lst (hosD os)), a4, a5, .no, .no, .no, .no, .no, .no, b2, b3, b4, b5, b6, b7, .no], []⟩
theorem rd_turn {x : Str} {ds ns : List D} {os : List NHo} {w : Str} (hl : w.length ≤ 100000) (ha : Asc w) (hos : os.length ≤ 100000) (a5 b2 b3 b4 b5 b6 b7 : Sl) :
    ∃ c5 d2 d3 d4 d5 d6 d7, b_l_law_read_1 (stR x ds ns os (.fz (.str w)) a5 b2 b3 b4 b5 b6 b7) = match rdH w with
      | some h => .nx (stR x ds ns (os ++ [h]) (.fz (.str w)) c5 d2 d3 d4 d5 d6 d7)
      | none => .rt (.str "text") (stR x ds ns os (.fz (.str w)) c5 d2 d3 d4 d5 d6 d7) := by
  obtain ⟨l1, l2, m1, m2⟩ := part_mem (w := w) e58
  obtain ⟨l3, l4, m3, m4⟩ := part_mem (w := (Txt.partition w ":").2.2) e45
  have p1 := part_ok e58 hl
  have p2 := part_ok (w := (Txt.partition w ":").2.2) e45 (by omega)
  have n1 := p_lnum (w := (Txt.partition (Txt.partition w ":").2.2 "-").1) (by omega) fun c hc => ha c (m2 c (m3 c hc))
  have n2 := p_lnum (w := (Txt.partition (Txt.partition w ":").2.2 "-").2.2) (by omega) fun c hc => ha c (m2 c (m4 c hc))
  have hz := sizeLine_ge
  have hlo : (hosD os).length < PySem.sizeLine := by
    have : (hosD os).length = os.length := by unfold hosD; simp
    omega
  cases q : rdH w with
  | some h =>
    obtain ⟨_, _, _, _, hc, hd⟩ := rdH_some q
    unfold rdH at q
    cases q1 : num (Txt.partition (Txt.partition w ":").2.2 "-").1 with
    | none => rw [q1] at q; cases q
    | some a =>
      cases q2 : num (Txt.partition (Txt.partition w ":").2.2 "-").2.2 with
      | none => rw [q1, q2] at q; cases q
      | some b =>
        rw [q1, q2] at q
        cases q
        rw [q1] at n1
        rw [q2] at n2
        rw [hc] at p1
        rw [hd] at p2
        have hfin : hosD (os ++ [((Txt.partition w ":").1, a, b)]) = hosD os ++ [.tup [.str (Txt.partition w ":").1, nO (some a), nO (some b)]] := by unfold hosD hoD hoN nO; simp
        have hi := in_none3 (Txt.partition w ":").1 (some a) (some b)
        have c1 := clean_nO (some a)
        have c2 := clean_nO (some b)
        have s1 : (Str.ofString ":" = Str.ofString "") = False := by rw [ofStr_eq]; decide
        have s2 : (Str.ofString "-" = Str.ofString "") = False := by rw [ofStr_eq]; decide
        refine ⟨.fz (.tup [.str (Txt.partition w ":").1, nO (some a), nO (some b)]), .fz (.str (Txt.partition w ":").1), .fz (.str ":"), .fz (.str (Txt.partition w ":").2.2), .fz (.str (Txt.partition (Txt.partition w ":").2.2 "-").1), .fz (.str "-"), .fz (.str (Txt.partition (Txt.partition w ":").2.2 "-").2.2), ?_⟩
        unfold stR
        simp only []
        rw [hfin]
        generalize (Txt.partition (Txt.partition w ":").2.2 "-").1 = s at p2 n1 ⊢
        generalize (Txt.partition (Txt.partition w ":").2.2 "-").2.2 = en at p2 n2 ⊢
        generalize (Txt.partition w ":").2.2 = re at p1 p2 ⊢
        generalize (Txt.partition w ":").1 = t at p1 hi ⊢
        generalize nO (some a) = da at n1 hi c1 ⊢
        generalize nO (some b) = db at n2 hi c2 ⊢
        unfold b_l_law_read_1
        simp [runF, mSeq, mIf, mRet, mSkip, mVar, mC, mOp, mIsi, mNotV, mAndV, mOrV, mTest, mOr, mAnd, mNot, mCall0, lend_clean, back0, resD_clean, clean_non, clean_bl, clean_int, clean_str, clean_lst, clean_tup, clean_dct, clean_obj, cleanL_nil, cleanL_cons, mCons, mNil, ML.R.bind, ML.R.thenS, setS, lift2, cont_clean, cont_cell, cont_scr, cont_exn, contL, mCB, isSlot_clean, isSlot_cell, isSlot_exn, isSlot_slot, mAsg, gTp, gLs, gsCons, gsNil, gNm, mAug, tyD, kb_ii, kb_ib, kb_bi, kb_bb, kb_si, kb_ss, kb_tt, kb_ll, kb_tl, kb_sl, kb_dl, kb_il, kb_bl, mChain, mChain3, mSet, mSetOw, mRetN, mRaise, mDisp, noSlots, mDrop, mIter, mMeth, ofTy, mFor, forL, mPutF, mFld, putP, lookN, putN, flatB, flatD, max2D, min2D, mPart, mNoPart, mSl, orF, orC, gtD, ltD, leD, leI, geD, subI, addD_ii, modI, isN, isntN, mIfE, mNeg, mBreak, mCont, orE, boxed, ofStr_eq, mMake0, madeR, mOwn, methR, methC, backC, mCell, mSetKey, mSetIx, setL, mAugIx, mCall, mMake, madeC, mLc, mYes, wipeS, backS, backE, mMaxDf, intsD, mIsK, mFrz, frzS, size_le, size_lt, cleanL_append, mMut, appendU, cont_slotE, List.any, List.all, p1, p2, n1, n2, hi, c1, c2, eq_ss, hlo]
  | none =>
    have hn : ((num (Txt.partition (Txt.partition w ":").2.2 "-").1).isSome && (num (Txt.partition (Txt.partition w ":").2.2 "-").2.2).isSome) = false := by
      unfold rdH at q
      cases q1 : num (Txt.partition (Txt.partition w ":").2.2 "-").1 with
      | none => rfl
      | some a =>
        cases q2 : num (Txt.partition (Txt.partition w ":").2.2 "-").2.2 with
        | none => rfl
        | some b => rw [q1, q2] at q; cases q
    have hi := in_none3 (Txt.partition w ":").1 (num (Txt.partition (Txt.partition w ":").2.2 "-").1) (num (Txt.partition (Txt.partition w ":").2.2 "-").2.2)
    rw [hn] at hi
    have c1 := clean_nO (num (Txt.partition (Txt.partition w ":").2.2 "-").1)
    have c2 := clean_nO (num (Txt.partition (Txt.partition w ":").2.2 "-").2.2)
    refine ⟨.fz (.tup [.str (Txt.partition w ":").1, nO (num (Txt.partition (Txt.partition w ":").2.2 "-").1), nO (num (Txt.partition (Txt.partition w ":").2.2 "-").2.2)]), .fz (.str (Txt.partition w ":").1), .fz (.str (Txt.partition w ":").2.1), .fz (.str (Txt.partition w ":").2.2), .fz (.str (Txt.partition (Txt.partition w ":").2.2 "-").1), .fz (.str (Txt.partition (Txt.partition w ":").2.2 "-").2.1), .fz (.str (Txt.partition (Txt.partition w ":").2.2 "-").2.2), ?_⟩
    unfold stR
    simp only []
    generalize nO (num (Txt.partition (Txt.partition w ":").2.2 "-").1) = da at n1 hi c1 ⊢
    generalize nO (num (Txt.partition (Txt.partition w ":").2.2 "-").2.2) = db at n2 hi c2 ⊢
    generalize (Txt.partition (Txt.partition w ":").2.2 "-").1 = s at p2 n1 ⊢
    generalize (Txt.partition (Txt.partition w ":").2.2 "-").2.1 = dd at p2 ⊢
    generalize (Txt.partition (Txt.partition w ":").2.2 "-").2.2 = en at p2 n2 ⊢
    generalize (Txt.partition w ":").2.2 = re at p1 p2 ⊢
    generalize (Txt.partition w ":").2.1 = cc at p1 ⊢
    generalize (Txt.partition w ":").1 = t at p1 hi ⊢
    unfold b_l_law_read_1
    by_cases z1 : cc = ("" : Str) <;> by_cases z2 : dd = ("" : Str) <;> simp [runF, mSeq, mIf, mRet, mSkip, mVar, mC, mOp, mIsi, mNotV, mAndV, mOrV, mTest, mOr, mAnd, mNot, mCall0, lend_clean, back0, resD_clean, clean_non, clean_bl, clean_int, clean_str, clean_lst, clean_tup, clean_dct, clean_obj, cleanL_nil, cleanL_cons, mCons, mNil, ML.R.bind, ML.R.thenS, setS, lift2, cont_clean, cont_cell, cont_scr, cont_exn, contL, mCB, isSlot_clean, isSlot_cell, isSlot_exn, isSlot_slot, mAsg, gTp, gLs, gsCons, gsNil, gNm, mAug, tyD, kb_ii, kb_ib, kb_bi, kb_bb, kb_si, kb_ss, kb_tt, kb_ll, kb_tl, kb_sl, kb_dl, kb_il, kb_bl, mChain, mChain3, mSet, mSetOw, mRetN, mRaise, mDisp, noSlots, mDrop, mIter, mMeth, ofTy, mFor, forL, mPutF, mFld, putP, lookN, putN, flatB, flatD, max2D, min2D, mPart, mNoPart, mSl, orF, orC, gtD, ltD, leD, leI, geD, subI, addD_ii, modI, isN, isntN, mIfE, mNeg, mBreak, mCont, orE, boxed, ofStr_eq, mMake0, madeR, mOwn, methR, methC, backC, mCell, mSetKey, mSetIx, setL, mAugIx, mCall, mMake, madeC, mLc, mYes, wipeS, backS, backE, mMaxDf, intsD, mIsK, mFrz, frzS, size_le, size_lt, cleanL_append, mMut, appendU, cont_slotE, List.any, List.all, p1, p2, n1, n2, hi, c1, c2, eq_ss, z1, z2]
/-! ### the second walk -/
def atB (L : Nat) (os : List NHo) (k : Nat) : Bool := match os[k]? with
  | some o => hoB L o && (os.take k).all (tN o)
  | none => true
theorem atB_all (L : Nat) (os : List NHo) : (List.range os.length).all (atB L os) = holdsB L os := by
  unfold holdsB
  rw [Bool.eq_iff_iff, List.all_eq_true, List.all_eq_true]
  refine forall_congr' fun k => ?_
  refine imp_congr_right fun hk => ?_
  have hk := List.mem_range.mp hk
  have h1 : os[k]? = some os[k] := List.getElem?_eq_getElem hk
  unfold atB hoAt fitAt
  rw [List.getElem?_map, h1]
  simp only [Option.map_some]
  have e : ((os.map hoN).take k).all (fun g => togB g (hoN os[k])) = (os.take k).all (tN os[k]) := by
    rw [← List.map_take, List.all_map]
    congr 1
    funext o
    exact togB_symm _ _
  rw [e]
theorem enum_map (os : List NHo) : enumD 0 (hosD os) = (List.range os.length).map fun k => D.tup [.int (k : Nat), (hosD os).getD k .non] := by
  have hl : (hosD os).length = os.length := by unfold hosD; simp
  refine List.ext_getElem? fun i => ?_
  by_cases h : i < os.length
  · have h1 : (hosD os)[i]? = some ((hosD os).getD i .non) := by
      rw [List.getD_eq_getElem?_getD, List.getElem?_eq_getElem (by omega)]
      rfl
    rw [enumD_get _ 0 i _ h1, List.getElem?_map, List.getElem?_range h]
    simp
  · rw [List.getElem?_eq_none (by rw [enumD_length]; omega), List.getElem?_eq_none (by simp; omega)]
abbrev stQ (a b c : Sl) (os : List NHo) (w5 w6 w7 w8 w9 w10 k o b2 b3 b4 b5 b6 b7 : Sl) : S := ⟨[a, b, c, .fz (.lst (hosD os)), w5, w6, w7, w8, w9, w10, k, o, b2, b3, b4, b5, b6, b7, .no], []⟩
theorem lc_fits {o : NHo} (st : Sl → S) (mv g : Nat) (os : List NHo) (hs : ∀ b : NHo, gNm g (hoD (hoN b)) (st .no) = some (st (.fz (hoD (hoN b)))) ∧ mCall0 m_l_law_fit [] (mCons (mVar mv) (mCons (mVar g) mNil)) (st (.fz (hoD (hoN b)))) = .ok (.bl (tN o b)) (st (.fz (hoD (hoN b)))) ∧ wipeS [g] (st (.fz (hoD (hoN b)))) = st .no) (hl : os.length ≤ 100000) :
    lcL (gNm g) mYes (mCall0 m_l_law_fit [] (mCons (mVar mv) (mCons (mVar g) mNil))) [g] (hosD os) [] (st .no) = .ok ((os.map (tN o)).map D.bl) (st .no) := by
  have h1 := lcL_all (g := gNm g) (mt := mYes) (me := mCall0 m_l_law_fit [] (mCons (mVar mv) (mCons (mVar g) mNil))) (vs := [g]) (fun b => hoD (hoN b)) (fun b => D.bl (tN o b)) (st .no) os [] (by have := sizeLine_ge; simp; omega) fun b hb => by
    obtain ⟨h1, h2, h3⟩ := hs b
    exact ⟨_, _, _, h1, rfl, h2, rfl, h3⟩
  rw [List.nil_append] at h1
  rw [List.map_map]
  exact h1
theorem rd_turn2 {os : List NHo} {L k : Nat} {o : NHo} (hk : os[k]? = some o) (ho : o.1.length ≤ 100000) (hl : os.length ≤ 100000) (a b c : D) (w5 w6 w7 : Sl) (w9 w10 : Sl) (b2 b3 b4 b5 b6 b7 : Sl) :
    b_l_law_read_2 (stQ (.fz a) (.fz b) (.fz c) os w5 w6 w7 (.fz (.int (L : Nat))) w9 w10 (.fz (.int (k : Nat))) (.fz (hoD (hoN o))) b2 b3 b4 b5 b6 b7) =
      if atB L os k = true then .nx (stQ (.fz a) (.fz b) (.fz c) os w5 w6 w7 (.fz (.int (L : Nat))) w9 w10 (.fz (.int (k : Nat))) (.fz (hoD (hoN o))) b2 b3 b4 b5 b6 b7)
      else .rt (.str "work") (stQ (.fz a) (.fz b) (.fz c) os w5 w6 w7 (.fz (.int (L : Nat))) w9 w10 (.fz (.int (k : Nat))) (.fz (hoD (hoN o))) b2 b3 b4 b5 b6 b7) := by
  have hnm := p_law_name ho
  have hco := clean_ho (hoN o)
  have hcl := cleanL_hos os
  have i0 : ixD (hoD (hoN o)) (.int 0) = some (.str o.1) := rfl
  have i1 : ixD (hoD (hoN o)) (.int 1) = some (.int (o.2.1 : Nat)) := rfl
  have i2 : ixD (hoD (hoN o)) (.int 2) = some (.int (o.2.2 : Nat)) := rfl
  have hsl := slL_to (hosD os) k
  have htk : (hosD os).take k = hosD (os.take k) := by unfold hosD; rw [List.map_take]
  rw [htk] at hsl
  have hct := cleanL_hos (os.take k)
  have hlc := lc_fits (o := o) (fun z => ⟨[.fz a, .fz b, .fz c, .fz (.lst (hosD os)), w5, w6, w7, .fz (.int (L : Nat)), w9, w10, .fz (.int (k : Nat)), .fz (hoD (hoN o)), b2, b3, b4, b5, b6, b7, z], []⟩) 11 18 (os.take k) (fun b' => ⟨rfl, by
      have hcb := clean_ho (hoN b')
      have hp := p_law_fit (hoN o) (hoN b') []
      simp [runF, mSeq, mIf, mRet, mSkip, mVar, mC, mOp, mIsi, mNotV, mAndV, mOrV, mTest, mOr, mAnd, mNot, mCall0, lend_clean, back0, resD_clean, clean_non, clean_bl, clean_int, clean_str, clean_lst, clean_tup, clean_dct, clean_obj, cleanL_nil, cleanL_cons, mCons, mNil, ML.R.bind, ML.R.thenS, setS, lift2, cont_clean, cont_cell, cont_scr, cont_exn, contL, mCB, isSlot_clean, isSlot_cell, isSlot_exn, isSlot_slot, mAsg, gTp, gLs, gsCons, gsNil, gNm, mAug, tyD, kb_ii, kb_ib, kb_bi, kb_bb, kb_si, kb_ss, kb_tt, kb_ll, kb_tl, kb_sl, kb_dl, kb_il, kb_bl, mChain, mChain3, mSet, mSetOw, mRetN, mRaise, mDisp, noSlots, mDrop, mIter, mMeth, ofTy, mFor, forL, mPutF, mFld, putP, lookN, putN, flatB, flatD, max2D, min2D, mPart, mNoPart, mSl, orF, orC, gtD, ltD, leD, leI, geD, subI, addD_ii, modI, isN, isntN, mIfE, mNeg, mBreak, mCont, orE, boxed, ofStr_eq, mMake0, madeR, mOwn, methR, methC, backC, mCell, mSetKey, mSetIx, setL, mAugIx, mCall, mMake, madeC, mLc, mYes, wipeS, backS, backE, mMaxDf, intsD, mIsK, mFrz, frzS, size_le, size_lt, cleanL_append, mMut, appendU, cont_slotE, List.any, List.all, hp, hco, hcb, tN], rfl⟩) (by simp; omega)
  have hin := inD_bools false ((os.take k).map (tN o))
  have hall : ((os.take k).map (tN o)).all id = (os.take k).all (tN o) := by rw [List.all_map]; rfl
  rw [hall, if_neg (by decide)] at hin
  have hcb : cleanL (((os.take k).map (tN o)).map D.bl) = true := cleanL_bools _
  have hat : atB L os k = (hoB L o && (os.take k).all (tN o)) := by unfold atB; rw [hk]
  rw [hat]
  generalize ((os.take k).map (tN o)).map D.bl = bl at hlc hin hcb
  generalize (os.take k).all (tN o) = fb at hin ⊢
  generalize hosD (os.take k) = tk at hlc hsl hct
  unfold stQ
  generalize hosD os = ds at hsl hlc hcl ⊢
  unfold b_l_law_read_2 hoB
  cases q : isNm o.1 with
  | false => rw [q] at hnm; simp [runF, mSeq, mIf, mRet, mSkip, mVar, mC, mOp, mIsi, mNotV, mAndV, mOrV, mTest, mOr, mAnd, mNot, mCall0, lend_clean, back0, resD_clean, clean_non, clean_bl, clean_int, clean_str, clean_lst, clean_tup, clean_dct, clean_obj, cleanL_nil, cleanL_cons, mCons, mNil, ML.R.bind, ML.R.thenS, setS, lift2, cont_clean, cont_cell, cont_scr, cont_exn, contL, mCB, isSlot_clean, isSlot_cell, isSlot_exn, isSlot_slot, mAsg, gTp, gLs, gsCons, gsNil, gNm, mAug, tyD, kb_ii, kb_ib, kb_bi, kb_bb, kb_si, kb_ss, kb_tt, kb_ll, kb_tl, kb_sl, kb_dl, kb_il, kb_bl, mChain, mChain3, mSet, mSetOw, mRetN, mRaise, mDisp, noSlots, mDrop, mIter, mMeth, ofTy, mFor, forL, mPutF, mFld, putP, lookN, putN, flatB, flatD, max2D, min2D, mPart, mNoPart, mSl, orF, orC, gtD, ltD, leD, leI, geD, subI, addD_ii, modI, isN, isntN, mIfE, mNeg, mBreak, mCont, orE, boxed, ofStr_eq, mMake0, madeR, mOwn, methR, methC, backC, mCell, mSetKey, mSetIx, setL, mAugIx, mCall, mMake, madeC, mLc, mYes, wipeS, backS, backE, mMaxDf, intsD, mIsK, mFrz, frzS, size_le, size_lt, cleanL_append, mMut, appendU, cont_slotE, List.any, List.all, i0, hnm, hco]
  | true =>
    rw [q] at hnm
    by_cases h1 : o.2.1 < o.2.2
    · have j1 : ((o.2.1 : Nat) : Int) < (o.2.2 : Nat) := by omega
      by_cases h2 : o.2.2 < L
      · have j2 : ((o.2.2 : Nat) : Int) < (L : Nat) := by omega
        cases fb <;> simp [runF, mSeq, mIf, mRet, mSkip, mVar, mC, mOp, mIsi, mNotV, mAndV, mOrV, mTest, mOr, mAnd, mNot, mCall0, lend_clean, back0, resD_clean, clean_non, clean_bl, clean_int, clean_str, clean_lst, clean_tup, clean_dct, clean_obj, cleanL_nil, cleanL_cons, mCons, mNil, ML.R.bind, ML.R.thenS, setS, lift2, cont_clean, cont_cell, cont_scr, cont_exn, contL, mCB, isSlot_clean, isSlot_cell, isSlot_exn, isSlot_slot, mAsg, gTp, gLs, gsCons, gsNil, gNm, mAug, tyD, kb_ii, kb_ib, kb_bi, kb_bb, kb_si, kb_ss, kb_tt, kb_ll, kb_tl, kb_sl, kb_dl, kb_il, kb_bl, mChain, mChain3, mSet, mSetOw, mRetN, mRaise, mDisp, noSlots, mDrop, mIter, mMeth, ofTy, mFor, forL, mPutF, mFld, putP, lookN, putN, flatB, flatD, max2D, min2D, mPart, mNoPart, mSl, orF, orC, gtD, ltD, leD, leI, geD, subI, addD_ii, modI, isN, isntN, mIfE, mNeg, mBreak, mCont, orE, boxed, ofStr_eq, mMake0, madeR, mOwn, methR, methC, backC, mCell, mSetKey, mSetIx, setL, mAugIx, mCall, mMake, madeC, mLc, mYes, wipeS, backS, backE, mMaxDf, intsD, mIsK, mFrz, frzS, size_le, size_lt, cleanL_append, mMut, appendU, cont_slotE, List.any, List.all, i0, i1, i2, hnm, hco, j1, j2, h1, h2, hsl, hct, hcl, hlc, hin, hcb]
      · have j2 : ¬ ((o.2.2 : Nat) : Int) < (L : Nat) := by omega
        simp [runF, mSeq, mIf, mRet, mSkip, mVar, mC, mOp, mIsi, mNotV, mAndV, mOrV, mTest, mOr, mAnd, mNot, mCall0, lend_clean, back0, resD_clean, clean_non, clean_bl, clean_int, clean_str, clean_lst, clean_tup, clean_dct, clean_obj, cleanL_nil, cleanL_cons, mCons, mNil, ML.R.bind, ML.R.thenS, setS, lift2, cont_clean, cont_cell, cont_scr, cont_exn, contL, mCB, isSlot_clean, isSlot_cell, isSlot_exn, isSlot_slot, mAsg, gTp, gLs, gsCons, gsNil, gNm, mAug, tyD, kb_ii, kb_ib, kb_bi, kb_bb, kb_si, kb_ss, kb_tt, kb_ll, kb_tl, kb_sl, kb_dl, kb_il, kb_bl, mChain, mChain3, mSet, mSetOw, mRetN, mRaise, mDisp, noSlots, mDrop, mIter, mMeth, ofTy, mFor, forL, mPutF, mFld, putP, lookN, putN, flatB, flatD, max2D, min2D, mPart, mNoPart, mSl, orF, orC, gtD, ltD, leD, leI, geD, subI, addD_ii, modI, isN, isntN, mIfE, mNeg, mBreak, mCont, orE, boxed, ofStr_eq, mMake0, madeR, mOwn, methR, methC, backC, mCell, mSetKey, mSetIx, setL, mAugIx, mCall, mMake, madeC, mLc, mYes, wipeS, backS, backE, mMaxDf, intsD, mIsK, mFrz, frzS, size_le, size_lt, cleanL_append, mMut, appendU, cont_slotE, List.any, List.all, i0, i1, i2, hnm, hco, j1, j2, h1, h2]
    · have j1 : ¬ ((o.2.1 : Nat) : Int) < (o.2.2 : Nat) := by omega
      simp [runF, mSeq, mIf, mRet, mSkip, mVar, mC, mOp, mIsi, mNotV, mAndV, mOrV, mTest, mOr, mAnd, mNot, mCall0, lend_clean, back0, resD_clean, clean_non, clean_bl, clean_int, clean_str, clean_lst, clean_tup, clean_dct, clean_obj, cleanL_nil, cleanL_cons, mCons, mNil, ML.R.bind, ML.R.thenS, setS, lift2, cont_clean, cont_cell, cont_scr, cont_exn, contL, mCB, isSlot_clean, isSlot_cell, isSlot_exn, isSlot_slot, mAsg, gTp, gLs, gsCons, gsNil, gNm, mAug, tyD, kb_ii, kb_ib, kb_bi, kb_bb, kb_si, kb_ss, kb_tt, kb_ll, kb_tl, kb_sl, kb_dl, kb_il, kb_bl, mChain, mChain3, mSet, mSetOw, mRetN, mRaise, mDisp, noSlots, mDrop, mIter, mMeth, ofTy, mFor, forL, mPutF, mFld, putP, lookN, putN, flatB, flatD, max2D, min2D, mPart, mNoPart, mSl, orF, orC, gtD, ltD, leD, leI, geD, subI, addD_ii, modI, isN, isntN, mIfE, mNeg, mBreak, mCont, orE, boxed, ofStr_eq, mMake0, madeR, mOwn, methR, methC, backC, mCell, mSetKey, mSetIx, setL, mAugIx, mCall, mMake, madeC, mLc, mYes, wipeS, backS, backE, mMaxDf, intsD, mIsK, mFrz, frzS, size_le, size_lt, cleanL_append, mMut, appendU, cont_slotE, List.any, List.all, i0, i1, i2, hnm, hco, j1, h1]
end K85
end
section
set_option Elab.async false
set_option linter.all false
set_option maxRecDepth 100000
set_option autoImplicit false
set_option maxHeartbeats 4000000
/-! K85v: a text read by the law, whole. -/
namespace K85
open PySem ML
theorem rdH_len {w : Str} {h : NHo} (e : rdH w = some h) : h.1.length ≤ w.length := by
  have h2 := (part_mem (w := w) e58).1
  have h3 : h.1 = (Txt.partition w ":").1 := by
    unfold rdH at e
    split at e
    · cases e; rfl
    · cases e
  rw [h3]
  exact h2
theorem p_lawT {x : Str} (hl : x.length ≤ 10000) (ha : Asc x) : m_l_law_read [.str x] [] = .ok (lawD (rdT x)) [] := by
  have hz := sizeLine_ge
  have lsp : (Str.ofString " ").length = 1 := by decide +kernel
  have hspl : splitD (.str x) [.str " "] = some (.lst ((Txt.split x " ").map D.str)) := by
    simp only [splitD]
    rw [if_pos ⟨by rw [lsp]; rfl, by omega⟩]
  have hlen : ∀ p ∈ Txt.split x " ", p.length ≤ 10000 ∧ Asc p := fun p hp => ⟨Nat.le_trans (split_len hp) hl, fun c hc => ha c (split_mem hp hc)⟩
  have hcnt := split_count x
  unfold rdT
  generalize Txt.split x " " = ws at hspl hlen hcnt ⊢
  have hc := cleanL_strs ws
  have hs15 := sl15 (ws.map D.str)
  have e15 : ((ws.map D.str).drop 1).take 4 = ((ws.drop 1).take 4).map D.str := by simp [List.map_take, List.map_drop]
  rw [e15] at hs15
  have lc1 := lcL_all (g := gNm 4) (mt := mYes) (me := mCall0 m_l_law_number [] (mCons (mVar 4) mNil)) (vs := [4]) D.str (fun w => nO (num w)) ⟨[.fz (.str x), .fz (.lst (ws.map D.str)), .no, .no, .no, .no, .no, .no, .no, .no, .no, .no, .no, .no, .no, .no, .no, .no, .no], []⟩ ((ws.drop 1).take 4) [] (by simp; omega) fun w hw => by
    have hw' : w ∈ ws := List.mem_of_mem_drop (List.mem_of_mem_take hw)
    have h1 := p_lnum (w := w) (by have := (hlen w hw').1; omega) (hlen w hw').2
    have h2 := clean_nO (num w)
    refine ⟨⟨[.fz (.str x), .fz (.lst (ws.map D.str)), .no, .no, .fz (.str w), .no, .no, .no, .no, .no, .no, .no, .no, .no, .no, .no, .no, .no, .no], []⟩, _, ⟨[.fz (.str x), .fz (.lst (ws.map D.str)), .no, .no, .fz (.str w), .no, .no, .no, .no, .no, .no, .no, .no, .no, .no, .no, .no, .no, .no], []⟩, rfl, rfl, ?_, isSlot_clean h2, rfl⟩
    simp [runF, mSeq, mIf, mRet, mSkip, mVar, mC, mOp, mIsi, mNotV, mAndV, mOrV, mTest, mOr, mAnd, mNot, mCall0, lend_clean, back0, resD_clean, clean_non, clean_bl, clean_int, clean_str, clean_lst, clean_tup, clean_dct, clean_obj, cleanL_nil, cleanL_cons, mCons, mNil, ML.R.bind, ML.R.thenS, setS, lift2, cont_clean, cont_cell, cont_scr, cont_exn, contL, mCB, isSlot_clean, isSlot_cell, isSlot_exn, isSlot_slot, mAsg, gTp, gLs, gsCons, gsNil, gNm, mAug, tyD, kb_ii, kb_ib, kb_bi, kb_bb, kb_si, kb_ss, kb_tt, kb_ll, kb_tl, kb_sl, kb_dl, kb_il, kb_bl, mChain, mChain3, mSet, mSetOw, mRetN, mRaise, mDisp, noSlots, mDrop, mIter, mMeth, ofTy, mFor, forL, mPutF, mFld, putP, lookN, putN, flatB, flatD, max2D, min2D, mPart, mNoPart, mSl, orF, orC, gtD, ltD, leD, leI, geD, subI, addD_ii, modI, isN, isntN, mIfE, mNeg, mBreak, mCont, orE, boxed, ofStr_eq, mMake0, madeR, mOwn, methR, methC, backC, mCell, mSetKey, mSetIx, setL, mAugIx, mCall, mMake, madeC, mLc, mYes, wipeS, backS, backE, mMaxDf, intsD, mIsK, mFrz, frzS, size_le, size_lt, cleanL_append, mMut, appendU, cont_slotE, List.any, List.all, h1, h2]
  rw [List.nil_append] at lc1
  have c15 := cleanL_strs ((ws.drop 1).take 4)
  have hin := in_none (((ws.drop 1).take 4).map num)
  have cnum : cleanL ((((ws.drop 1).take 4).map num).map nO) = true := by
    generalize ((ws.drop 1).take 4).map num = os
    induction os with
    | nil => exact Eq.trans rfl rfl
    | cons o os ih => rw [List.map_cons, cleanL_cons, clean_nO, ih] <;> rfl
  have emm : (((ws.drop 1).take 4).map num).map nO = ((ws.drop 1).take 4).map fun w => nO (num w) := by rw [List.map_map]; rfl
  rw [emm] at hin cnum
  have few : ws.length < 5 → m_l_law_read [.str x] [] = .ok (.str "text") [] := fun h => by
    have h5 : (((ws.map D.str).length : Nat) : Int) < 5 := by simp; omega
    generalize ((ws.drop 1).take 4).map (fun w => nO (num w)) = ns at lc1 hin cnum
    generalize ((ws.drop 1).take 4).map D.str = d4 at hs15 lc1 c15
    generalize ws.map D.str = ds at hspl hc h5 hs15 lc1
    unfold m_l_law_read b_l_law_read
    simp [runF, mSeq, mIf, mRet, mSkip, mVar, mC, mOp, mIsi, mNotV, mAndV, mOrV, mTest, mOr, mAnd, mNot, mCall0, lend_clean, back0, resD_clean, clean_non, clean_bl, clean_int, clean_str, clean_lst, clean_tup, clean_dct, clean_obj, cleanL_nil, cleanL_cons, mCons, mNil, ML.R.bind, ML.R.thenS, setS, lift2, cont_clean, cont_cell, cont_scr, cont_exn, contL, mCB, isSlot_clean, isSlot_cell, isSlot_exn, isSlot_slot, mAsg, gTp, gLs, gsCons, gsNil, gNm, mAug, tyD, kb_ii, kb_ib, kb_bi, kb_bb, kb_si, kb_ss, kb_tt, kb_ll, kb_tl, kb_sl, kb_dl, kb_il, kb_bl, mChain, mChain3, mSet, mSetOw, mRetN, mRaise, mDisp, noSlots, mDrop, mIter, mMeth, ofTy, mFor, forL, mPutF, mFld, putP, lookN, putN, flatB, flatD, max2D, min2D, mPart, mNoPart, mSl, orF, orC, gtD, ltD, leD, leI, geD, subI, addD_ii, modI, isN, isntN, mIfE, mNeg, mBreak, mCont, orE, boxed, ofStr_eq, mMake0, madeR, mOwn, methR, methC, backC, mCell, mSetKey, mSetIx, setL, mAugIx, mCall, mMake, madeC, mLc, mYes, wipeS, backS, backE, mMaxDf, intsD, mIsK, mFrz, frzS, size_le, size_lt, cleanL_append, mMut, appendU, cont_slotE, List.any, List.all, hspl, hc, hs15, c15, lc1, cnum, lenD, h5]
  match ws, hspl, hlen, hc, few, hcnt, hs15, lc1, c15, hin, cnum with
  | [], _, _, _, few, _, _, _, _, _, _ => exact few (by decide)
  | [_], _, _, _, few, _, _, _, _, _, _ => exact few (by simp)
  | [_, _], _, _, _, few, _, _, _, _, _, _ => exact few (by simp)
  | [_, _, _], _, _, _, few, _, _, _, _, _, _ => exact few (by simp)
  | [_, _, _, _], _, _, _, few, _, _, _, _, _, _ => exact few (by simp)
  | nm :: g :: l :: d :: e :: r, hspl, hlen, hc, _, hcnt, hs15, lc1, c15, hin, cnum =>
    have t4 : (((nm :: g :: l :: d :: e :: r).drop 1).take 4) = [g, l, d, e] := rfl
    rw [t4] at hs15 lc1 c15 hin cnum
    have hd5 : ((nm :: g :: l :: d :: e :: r).map D.str).drop 5 = r.map D.str := rfl
    have hx0 : ixD (.lst ((nm :: g :: l :: d :: e :: r).map D.str)) (.int 0) = some (.str nm) := ixL (k := 0) rfl
    have hlen5 : 5 ≤ ((nm :: g :: l :: d :: e :: r).map D.str).length := by simp
    have hrl : r.length ≤ 10001 := by simp at hcnt; omega
    have hnm := p_law_name (w := nm) (by have := (hlen nm (by simp)).1; omega)
    have hlr : ∀ w ∈ r, w.length ≤ 10000 ∧ Asc w := fun w hw => hlen w (by simp; right; right; right; right; right; exact hw)
    generalize (nm :: g :: l :: d :: e :: r).map D.str = ds at hspl hc hd5 hx0 hlen5 hs15 lc1
    have h5 : ¬ (ds.length : Int) < 5 := by omega
    have sl2 : slL (.lst ds) (some 5) none = some (.lst (ds.drop 5)) := slL_from ds 5
    rw [hd5] at sl2
    have c5 := cleanL_strs r
    unfold rdW
    -- a word that is no number
    have nonum : ([g, l, d, e].map num).all Option.isSome = false → m_l_law_read [.str x] [] = .ok (.str "text") [] := fun h => by
      rw [h] at hin
      generalize [g, l, d, e].map (fun w => nO (num w)) = ns at lc1 hin cnum
      generalize [g, l, d, e].map D.str = d4 at hs15 lc1 c15
      unfold m_l_law_read b_l_law_read
      simp [runF, mSeq, mIf, mRet, mSkip, mVar, mC, mOp, mIsi, mNotV, mAndV, mOrV, mTest, mOr, mAnd, mNot, mCall0, lend_clean, back0, resD_clean, clean_non, clean_bl, clean_int, clean_str, clean_lst, clean_tup, clean_dct, clean_obj, cleanL_nil, cleanL_cons, mCons, mNil, ML.R.bind, ML.R.thenS, setS, lift2, cont_clean, cont_cell, cont_scr, cont_exn, contL, mCB, isSlot_clean, isSlot_cell, isSlot_exn, isSlot_slot, mAsg, gTp, gLs, gsCons, gsNil, gNm, mAug, tyD, kb_ii, kb_ib, kb_bi, kb_bb, kb_si, kb_ss, kb_tt, kb_ll, kb_tl, kb_sl, kb_dl, kb_il, kb_bl, mChain, mChain3, mSet, mSetOw, mRetN, mRaise, mDisp, noSlots, mDrop, mIter, mMeth, ofTy, mFor, forL, mPutF, mFld, putP, lookN, putN, flatB, flatD, max2D, min2D, mPart, mNoPart, mSl, orF, orC, gtD, ltD, leD, leI, geD, subI, addD_ii, modI, isN, isntN, mIfE, mNeg, mBreak, mCont, orE, boxed, ofStr_eq, mMake0, madeR, mOwn, methR, methC, backC, mCell, mSetKey, mSetIx, setL, mAugIx, mCall, mMake, madeC, mLc, mYes, wipeS, backS, backE, mMaxDf, intsD, mIsK, mFrz, frzS, size_le, size_lt, cleanL_append, mMut, appendU, cont_slotE, List.any, List.all, hspl, hc, hs15, c15, lc1, cnum, lenD, h5, hin]
    cases q1 : num g with
    | none => exact (nonum (by simp [q1])).trans (by simp [q1, lawD])
    | some g' =>
      cases q2 : num l with
      | none => exact (nonum (by simp [q2])).trans (by simp [q1, q2, lawD])
      | some l' =>
        cases q3 : num d with
        | none => exact (nonum (by simp [q3])).trans (by simp [q1, q2, q3, lawD])
        | some d' =>
          cases q4 : num e with
          | none => exact (nonum (by simp [q4])).trans (by simp [q1, q2, q3, q4, lawD])
          | some e' =>
            have hns : ([g, l, d, e].map fun w => nO (num w)) = [.int (g' : Nat), .int (l' : Nat), .int (d' : Nat), .int (e' : Nat)] := by simp [q1, q2, q3, q4, nO]
            have hal : ([g, l, d, e].map num).all Option.isSome = true := by simp [q1, q2, q3, q4]
            rw [hal] at hin
            rw [hns] at hin lc1 cnum
            generalize [g, l, d, e].map D.str = d4 at hs15 lc1 c15
            -- the walk over the words of the holds
            have key := forL_inv (g := gNm 4) (b := b_l_law_read_1) D.str (fun w => (rdH w).isSome) (fun done s => ∃ a4 a5 b2 b3 b4 b5 b6 b7, s = stR x ds [.int (g' : Nat), .int (l' : Nat), .int (d' : Nat), .int (e' : Nat)] (done.filterMap rdH) a4 a5 b2 b3 b4 b5 b6 b7) (fun f => ∃ s, f = .rt (.str "text") ⟨s, []⟩) (fun s => ⟨by simp, by simp, by simp⟩)
              r [] (stR x ds [.int (g' : Nat), .int (l' : Nat), .int (d' : Nat), .int (e' : Nat)] [] .no .no .no .no .no .no .no .no) ⟨_, _, _, _, _, _, _, _, rfl⟩ fun w done rest s ew ⟨a4, a5, b2, b3, b4, b5, b6, b7, es⟩ => by
                subst es
                have hw : w ∈ r := by
                  have : r = done ++ w :: rest := by simpa using ew
                  rw [this]
                  simp
                have hdl : (done.filterMap rdH).length ≤ 100000 := by
                  have h1 := List.length_filterMap_le rdH done
                  have : r = done ++ w :: rest := by simpa using ew
                  have h2 := congrArg List.length this
                  simp at h2
                  omega
                obtain ⟨c5', d2, d3, d4', d5, d6, d7, ht⟩ := rd_turn (x := x) (ds := ds) (ns := [.int (g' : Nat), .int (l' : Nat), .int (d' : Nat), .int (e' : Nat)]) (os := done.filterMap rdH) (w := w) (by have := (hlr w hw).1; omega) (hlr w hw).2 hdl a5 b2 b3 b4 b5 b6 b7
                refine ⟨_, rfl, fun hp => ?_, fun hp => ?_⟩
                · obtain ⟨h, q⟩ := Option.isSome_iff_exists.mp hp
                  rw [q] at ht
                  refine ⟨_, .inl ht, .fz (.str w), c5', d2, d3, d4', d5, d6, d7, ?_⟩
                  rw [List.filterMap_append, List.filterMap_cons, q]
                  rfl
                · cases q : rdH w with
                  | some h => rw [q] at hp; cases hp
                  | none =>
                    rw [q] at ht
                    exact ⟨_, ht⟩
            have c5' := c5
            generalize hrr : r.map D.str = rr at sl2 c5 key
            cases hr : r.all fun w => (rdH w).isSome with
            | false =>
              obtain ⟨s, k1⟩ := key.2 hr
              simp only [q1, q2, q3, q4, hr, Bool.false_eq_true, if_false]
              unfold stR hosD at k1
              simp only [List.map_nil] at k1
              unfold m_l_law_read b_l_law_read lawD
              simp [runF, mSeq, mIf, mRet, mSkip, mVar, mC, mOp, mIsi, mNotV, mAndV, mOrV, mTest, mOr, mAnd, mNot, mCall0, lend_clean, back0, resD_clean, clean_non, clean_bl, clean_int, clean_str, clean_lst, clean_tup, clean_dct, clean_obj, cleanL_nil, cleanL_cons, mCons, mNil, ML.R.bind, ML.R.thenS, setS, lift2, cont_clean, cont_cell, cont_scr, cont_exn, contL, mCB, isSlot_clean, isSlot_cell, isSlot_exn, isSlot_slot, mAsg, gTp, gLs, gsCons, gsNil, gNm, mAug, tyD, kb_ii, kb_ib, kb_bi, kb_bb, kb_si, kb_ss, kb_tt, kb_ll, kb_tl, kb_sl, kb_dl, kb_il, kb_bl, mChain, mChain3, mSet, mSetOw, mRetN, mRaise, mDisp, noSlots, mDrop, mIter, mMeth, ofTy, mFor, forL, mPutF, mFld, putP, lookN, putN, flatB, flatD, max2D, min2D, mPart, mNoPart, mSl, orF, orC, gtD, ltD, leD, leI, geD, subI, addD_ii, modI, isN, isntN, mIfE, mNeg, mBreak, mCont, orE, boxed, ofStr_eq, mMake0, madeR, mOwn, methR, methC, backC, mCell, mSetKey, mSetIx, setL, mAugIx, mCall, mMake, madeC, mLc, mYes, wipeS, backS, backE, mMaxDf, intsD, mIsK, mFrz, frzS, size_le, size_lt, cleanL_append, mMut, appendU, cont_slotE, List.any, List.all, hspl, hc, hs15, c15, lc1, cnum, lenD, h5, hin, sl2, c5, k1]
            | true =>
              obtain ⟨s, k1, a4, a5, b2, b3, b4, b5, b6, b7, es⟩ := key.1 hr
              subst es
              rw [List.nil_append] at k1
              simp only [q1, q2, q3, q4, hr, if_true]
              obtain ⟨os, hos⟩ : ∃ os, os = r.filterMap rdH := ⟨_, rfl⟩
              rw [← hos] at k1 ⊢
              have hol : os.length ≤ 10001 := by
                have := List.length_filterMap_le rdH r
                rw [hos]
                omega
              have hon : ∀ o ∈ os, o.1.length ≤ 100000 := fun o ho => by
                rw [hos] at ho
                obtain ⟨w, hw1, hw2⟩ := List.mem_filterMap.mp ho
                have := rdH_len hw2
                have := (hlr w hw1).1
                omega
              have hlo : (hosD os).length = os.length := by unfold hosD; simp
              have hcl := cleanL_hos os
              have hen := enum_map os
              -- the walk over the holds
              have key2 := forL_inv (g := gTp 2 (gsCons (gNm 10) (gsCons (gNm 11) gsNil))) (b := b_l_law_read_2) (fun k : Nat => D.tup [.int (k : Nat), (hosD os).getD k .non]) (atB l' os)
                (fun _ s => ∃ k o, s = stQ (.fz (.str x)) (.fz (.lst ds)) (.fz (.lst [.int (g' : Nat), .int (l' : Nat), .int (d' : Nat), .int (e' : Nat)])) os a4 a5 (.fz (.int (g' : Nat))) (.fz (.int (l' : Nat))) (.fz (.int (d' : Nat))) (.fz (.int (e' : Nat))) k o b2 b3 b4 b5 b6 b7)
                (fun f => ∃ s, f = .rt (.str "work") ⟨s, []⟩) (fun s => ⟨by simp, by simp, by simp⟩) (List.range os.length) [] (stQ (.fz (.str x)) (.fz (.lst ds)) (.fz (.lst [.int (g' : Nat), .int (l' : Nat), .int (d' : Nat), .int (e' : Nat)])) os a4 a5 (.fz (.int (g' : Nat))) (.fz (.int (l' : Nat))) (.fz (.int (d' : Nat))) (.fz (.int (e' : Nat))) .no .no b2 b3 b4 b5 b6 b7) ⟨_, _, rfl⟩
                fun k done rest s ek ⟨kk, oo, es⟩ => by
                  subst es
                  obtain ⟨_, hk, _⟩ := range_split (by simpa using ek)
                  have h1 : os[k]? = some os[k] := List.getElem?_eq_getElem hk
                  have h2 : (hosD os).getD k .non = hoD (hoN os[k]) := by
                    rw [List.getD_eq_getElem?_getD]
                    unfold hosD
                    rw [List.getElem?_map, h1]
                    rfl
                  have ht := rd_turn2 (os := os) (L := l') (k := k) (o := os[k]) h1 (hon _ (List.getElem_mem hk)) (by omega) (.str x) (.lst ds) (.lst [.int (g' : Nat), .int (l' : Nat), .int (d' : Nat), .int (e' : Nat)]) a4 a5 (.fz (.int (g' : Nat))) (.fz (.int (d' : Nat))) (.fz (.int (e' : Nat))) b2 b3 b4 b5 b6 b7
                  refine ⟨stQ (.fz (.str x)) (.fz (.lst ds)) (.fz (.lst [.int (g' : Nat), .int (l' : Nat), .int (d' : Nat), .int (e' : Nat)])) os a4 a5 (.fz (.int (g' : Nat))) (.fz (.int (l' : Nat))) (.fz (.int (d' : Nat))) (.fz (.int (e' : Nat))) (.fz (.int (k : Nat))) (.fz (hoD (hoN os[k]))) b2 b3 b4 b5 b6 b7, by rw [h2]; rfl, fun hp => ⟨_, .inl (ht.trans (if_pos hp)), _, _, rfl⟩, fun hp => ⟨_, ht.trans (if_neg (by rw [hp]; exact Bool.false_ne_true))⟩⟩
              rw [atB_all, ← hen] at key2
              have hO : okW ⟨nm, g', l', d', e', os⟩ = ((isNm nm && (decide (1 ≤ g') && decide (1 ≤ l'))) && ((decide (1 ≤ d') && decide (d' ≤ g')) && (decide (os.length ≤ 6) && holdsB l' os))) := rfl
              show m_l_law_read [.str x] [] = .ok (if okW ⟨nm, g', l', d', e', os⟩ = true then .tup [.str nm, .int (g' : Nat), .int (l' : Nat), .int (d' : Nat), .int (e' : Nat), .lst (hosD os)] else .str "work") []
              unfold stR at k1
              have e0 : hosD [] = [] := rfl
              rw [e0] at k1
              unfold stQ at key2
              rw [hO]
              generalize hosD os = hsD at k1 key2 hlo hcl ⊢
              unfold m_l_law_read b_l_law_read
              cases q5 : isNm nm with
              | false =>
                rw [q5] at hnm
                simp [runF, mSeq, mIf, mRet, mSkip, mVar, mC, mOp, mIsi, mNotV, mAndV, mOrV, mTest, mOr, mAnd, mNot, mCall0, lend_clean, back0, resD_clean, clean_non, clean_bl, clean_int, clean_str, clean_lst, clean_tup, clean_dct, clean_obj, cleanL_nil, cleanL_cons, mCons, mNil, ML.R.bind, ML.R.thenS, setS, lift2, cont_clean, cont_cell, cont_scr, cont_exn, contL, mCB, isSlot_clean, isSlot_cell, isSlot_exn, isSlot_slot, mAsg, gTp, gLs, gsCons, gsNil, gNm, mAug, tyD, kb_ii, kb_ib, kb_bi, kb_bb, kb_si, kb_ss, kb_tt, kb_ll, kb_tl, kb_sl, kb_dl, kb_il, kb_bl, mChain, mChain3, mSet, mSetOw, mRetN, mRaise, mDisp, noSlots, mDrop, mIter, mMeth, ofTy, mFor, forL, mPutF, mFld, putP, lookN, putN, flatB, flatD, max2D, min2D, mPart, mNoPart, mSl, orF, orC, gtD, ltD, leD, leI, geD, subI, addD_ii, modI, isN, isntN, mIfE, mNeg, mBreak, mCont, orE, boxed, ofStr_eq, mMake0, madeR, mOwn, methR, methC, backC, mCell, mSetKey, mSetIx, setL, mAugIx, mCall, mMake, madeC, mLc, mYes, wipeS, backS, backE, mMaxDf, intsD, mIsK, mFrz, frzS, size_le, size_lt, cleanL_append, mMut, appendU, cont_slotE, List.any, List.all, hspl, hc, hs15, c15, lc1, cnum, lenD, h5, hin, sl2, c5, k1, hx0, hnm]
              | true =>
                rw [q5] at hnm
                by_cases v1 : 1 ≤ g'
                · have u1 : ¬ ((g' : Nat) : Int) < 1 := by omega
                  by_cases v2 : 1 ≤ l'
                  · have u2 : ¬ ((l' : Nat) : Int) < 1 := by omega
                    by_cases v3 : 1 ≤ d'
                    · have u3 : (1 : Int) ≤ ((d' : Nat) : Int) := by omega
                      by_cases v4 : d' ≤ g'
                      · have u4 : ((d' : Nat) : Int) ≤ ((g' : Nat) : Int) := by omega
                        by_cases v6 : os.length ≤ 6
                        · have u6 : ¬ (6 : Int) < ((os.length : Nat) : Int) := by omega
                          cases hB : holdsB l' os with
                          | false =>
                            obtain ⟨s, k2⟩ := key2.2 hB
                            simp [runF, mSeq, mIf, mRet, mSkip, mVar, mC, mOp, mIsi, mNotV, mAndV, mOrV, mTest, mOr, mAnd, mNot, mCall0, lend_clean, back0, resD_clean, clean_non, clean_bl, clean_int, clean_str, clean_lst, clean_tup, clean_dct, clean_obj, cleanL_nil, cleanL_cons, mCons, mNil, ML.R.bind, ML.R.thenS, setS, lift2, cont_clean, cont_cell, cont_scr, cont_exn, contL, mCB, isSlot_clean, isSlot_cell, isSlot_exn, isSlot_slot, mAsg, gTp, gLs, gsCons, gsNil, gNm, mAug, tyD, kb_ii, kb_ib, kb_bi, kb_bb, kb_si, kb_ss, kb_tt, kb_ll, kb_tl, kb_sl, kb_dl, kb_il, kb_bl, mChain, mChain3, mSet, mSetOw, mRetN, mRaise, mDisp, noSlots, mDrop, mIter, mMeth, ofTy, mFor, forL, mPutF, mFld, putP, lookN, putN, flatB, flatD, max2D, min2D, mPart, mNoPart, mSl, orF, orC, gtD, ltD, leD, leI, geD, subI, addD_ii, modI, isN, isntN, mIfE, mNeg, mBreak, mCont, orE, boxed, ofStr_eq, mMake0, madeR, mOwn, methR, methC, backC, mCell, mSetKey, mSetIx, setL, mAugIx, mCall, mMake, madeC, mLc, mYes, wipeS, backS, backE, mMaxDf, intsD, mIsK, mFrz, frzS, size_le, size_lt, cleanL_append, mMut, appendU, cont_slotE, List.any, List.all, hspl, hc, hs15, c15, lc1, cnum, lenD, h5, hin, sl2, c5, k1, hx0, hnm, u1, u2, u3, u4, hlo, u6, hcl, mEnum, k2, v1, v2, v3, v4, v6]
                          | true =>
                            obtain ⟨s, k2, kk, oo, es⟩ := key2.1 hB
                            subst es
                            simp [runF, mSeq, mIf, mRet, mSkip, mVar, mC, mOp, mIsi, mNotV, mAndV, mOrV, mTest, mOr, mAnd, mNot, mCall0, lend_clean, back0, resD_clean, clean_non, clean_bl, clean_int, clean_str, clean_lst, clean_tup, clean_dct, clean_obj, cleanL_nil, cleanL_cons, mCons, mNil, ML.R.bind, ML.R.thenS, setS, lift2, cont_clean, cont_cell, cont_scr, cont_exn, contL, mCB, isSlot_clean, isSlot_cell, isSlot_exn, isSlot_slot, mAsg, gTp, gLs, gsCons, gsNil, gNm, mAug, tyD, kb_ii, kb_ib, kb_bi, kb_bb, kb_si, kb_ss, kb_tt, kb_ll, kb_tl, kb_sl, kb_dl, kb_il, kb_bl, mChain, mChain3, mSet, mSetOw, mRetN, mRaise, mDisp, noSlots, mDrop, mIter, mMeth, ofTy, mFor, forL, mPutF, mFld, putP, lookN, putN, flatB, flatD, max2D, min2D, mPart, mNoPart, mSl, orF, orC, gtD, ltD, leD, leI, geD, subI, addD_ii, modI, isN, isntN, mIfE, mNeg, mBreak, mCont, orE, boxed, ofStr_eq, mMake0, madeR, mOwn, methR, methC, backC, mCell, mSetKey, mSetIx, setL, mAugIx, mCall, mMake, madeC, mLc, mYes, wipeS, backS, backE, mMaxDf, intsD, mIsK, mFrz, frzS, size_le, size_lt, cleanL_append, mMut, appendU, cont_slotE, List.any, List.all, hspl, hc, hs15, c15, lc1, cnum, lenD, h5, hin, sl2, c5, k1, hx0, hnm, u1, u2, u3, u4, hlo, u6, hcl, mEnum, k2, v1, v2, v3, v4, v6]
                        · have u6 : (6 : Int) < ((os.length : Nat) : Int) := by omega
                          simp [runF, mSeq, mIf, mRet, mSkip, mVar, mC, mOp, mIsi, mNotV, mAndV, mOrV, mTest, mOr, mAnd, mNot, mCall0, lend_clean, back0, resD_clean, clean_non, clean_bl, clean_int, clean_str, clean_lst, clean_tup, clean_dct, clean_obj, cleanL_nil, cleanL_cons, mCons, mNil, ML.R.bind, ML.R.thenS, setS, lift2, cont_clean, cont_cell, cont_scr, cont_exn, contL, mCB, isSlot_clean, isSlot_cell, isSlot_exn, isSlot_slot, mAsg, gTp, gLs, gsCons, gsNil, gNm, mAug, tyD, kb_ii, kb_ib, kb_bi, kb_bb, kb_si, kb_ss, kb_tt, kb_ll, kb_tl, kb_sl, kb_dl, kb_il, kb_bl, mChain, mChain3, mSet, mSetOw, mRetN, mRaise, mDisp, noSlots, mDrop, mIter, mMeth, ofTy, mFor, forL, mPutF, mFld, putP, lookN, putN, flatB, flatD, max2D, min2D, mPart, mNoPart, mSl, orF, orC, gtD, ltD, leD, leI, geD, subI, addD_ii, modI, isN, isntN, mIfE, mNeg, mBreak, mCont, orE, boxed, ofStr_eq, mMake0, madeR, mOwn, methR, methC, backC, mCell, mSetKey, mSetIx, setL, mAugIx, mCall, mMake, madeC, mLc, mYes, wipeS, backS, backE, mMaxDf, intsD, mIsK, mFrz, frzS, size_le, size_lt, cleanL_append, mMut, appendU, cont_slotE, List.any, List.all, hspl, hc, hs15, c15, lc1, cnum, lenD, h5, hin, sl2, c5, k1, hx0, hnm, u1, u2, u3, u4, hlo, u6, v6]
                      · have u4 : ¬ ((d' : Nat) : Int) ≤ ((g' : Nat) : Int) := by omega
                        simp [runF, mSeq, mIf, mRet, mSkip, mVar, mC, mOp, mIsi, mNotV, mAndV, mOrV, mTest, mOr, mAnd, mNot, mCall0, lend_clean, back0, resD_clean, clean_non, clean_bl, clean_int, clean_str, clean_lst, clean_tup, clean_dct, clean_obj, cleanL_nil, cleanL_cons, mCons, mNil, ML.R.bind, ML.R.thenS, setS, lift2, cont_clean, cont_cell, cont_scr, cont_exn, contL, mCB, isSlot_clean, isSlot_cell, isSlot_exn, isSlot_slot, mAsg, gTp, gLs, gsCons, gsNil, gNm, mAug, tyD, kb_ii, kb_ib, kb_bi, kb_bb, kb_si, kb_ss, kb_tt, kb_ll, kb_tl, kb_sl, kb_dl, kb_il, kb_bl, mChain, mChain3, mSet, mSetOw, mRetN, mRaise, mDisp, noSlots, mDrop, mIter, mMeth, ofTy, mFor, forL, mPutF, mFld, putP, lookN, putN, flatB, flatD, max2D, min2D, mPart, mNoPart, mSl, orF, orC, gtD, ltD, leD, leI, geD, subI, addD_ii, modI, isN, isntN, mIfE, mNeg, mBreak, mCont, orE, boxed, ofStr_eq, mMake0, madeR, mOwn, methR, methC, backC, mCell, mSetKey, mSetIx, setL, mAugIx, mCall, mMake, madeC, mLc, mYes, wipeS, backS, backE, mMaxDf, intsD, mIsK, mFrz, frzS, size_le, size_lt, cleanL_append, mMut, appendU, cont_slotE, List.any, List.all, hspl, hc, hs15, c15, lc1, cnum, lenD, h5, hin, sl2, c5, k1, hx0, hnm, u1, u2, u3, u4, v4]
                    · have u3 : ¬ (1 : Int) ≤ ((d' : Nat) : Int) := by omega
                      simp [runF, mSeq, mIf, mRet, mSkip, mVar, mC, mOp, mIsi, mNotV, mAndV, mOrV, mTest, mOr, mAnd, mNot, mCall0, lend_clean, back0, resD_clean, clean_non, clean_bl, clean_int, clean_str, clean_lst, clean_tup, clean_dct, clean_obj, cleanL_nil, cleanL_cons, mCons, mNil, ML.R.bind, ML.R.thenS, setS, lift2, cont_clean, cont_cell, cont_scr, cont_exn, contL, mCB, isSlot_clean, isSlot_cell, isSlot_exn, isSlot_slot, mAsg, gTp, gLs, gsCons, gsNil, gNm, mAug, tyD, kb_ii, kb_ib, kb_bi, kb_bb, kb_si, kb_ss, kb_tt, kb_ll, kb_tl, kb_sl, kb_dl, kb_il, kb_bl, mChain, mChain3, mSet, mSetOw, mRetN, mRaise, mDisp, noSlots, mDrop, mIter, mMeth, ofTy, mFor, forL, mPutF, mFld, putP, lookN, putN, flatB, flatD, max2D, min2D, mPart, mNoPart, mSl, orF, orC, gtD, ltD, leD, leI, geD, subI, addD_ii, modI, isN, isntN, mIfE, mNeg, mBreak, mCont, orE, boxed, ofStr_eq, mMake0, madeR, mOwn, methR, methC, backC, mCell, mSetKey, mSetIx, setL, mAugIx, mCall, mMake, madeC, mLc, mYes, wipeS, backS, backE, mMaxDf, intsD, mIsK, mFrz, frzS, size_le, size_lt, cleanL_append, mMut, appendU, cont_slotE, List.any, List.all, hspl, hc, hs15, c15, lc1, cnum, lenD, h5, hin, sl2, c5, k1, hx0, hnm, u1, u2, u3, v3]
                  · have u2 : ((l' : Nat) : Int) < 1 := by omega
                    simp [runF, mSeq, mIf, mRet, mSkip, mVar, mC, mOp, mIsi, mNotV, mAndV, mOrV, mTest, mOr, mAnd, mNot, mCall0, lend_clean, back0, resD_clean, clean_non, clean_bl, clean_int, clean_str, clean_lst, clean_tup, clean_dct, clean_obj, cleanL_nil, cleanL_cons, mCons, mNil, ML.R.bind, ML.R.thenS, setS, lift2, cont_clean, cont_cell, cont_scr, cont_exn, contL, mCB, isSlot_clean, isSlot_cell, isSlot_exn, isSlot_slot, mAsg, gTp, gLs, gsCons, gsNil, gNm, mAug, tyD, kb_ii, kb_ib, kb_bi, kb_bb, kb_si, kb_ss, kb_tt, kb_ll, kb_tl, kb_sl, kb_dl, kb_il, kb_bl, mChain, mChain3, mSet, mSetOw, mRetN, mRaise, mDisp, noSlots, mDrop, mIter, mMeth, ofTy, mFor, forL, mPutF, mFld, putP, lookN, putN, flatB, flatD, max2D, min2D, mPart, mNoPart, mSl, orF, orC, gtD, ltD, leD, leI, geD, subI, addD_ii, modI, isN, isntN, mIfE, mNeg, mBreak, mCont, orE, boxed, ofStr_eq, mMake0, madeR, mOwn, methR, methC, backC, mCell, mSetKey, mSetIx, setL, mAugIx, mCall, mMake, madeC, mLc, mYes, wipeS, backS, backE, mMaxDf, intsD, mIsK, mFrz, frzS, size_le, size_lt, cleanL_append, mMut, appendU, cont_slotE, List.any, List.all, hspl, hc, hs15, c15, lc1, cnum, lenD, h5, hin, sl2, c5, k1, hx0, hnm, u1, u2, v2]
                · have u1 : ((g' : Nat) : Int) < 1 := by omega
                  simp [runF, mSeq, mIf, mRet, mSkip, mVar, mC, mOp, mIsi, mNotV, mAndV, mOrV, mTest, mOr, mAnd, mNot, mCall0, lend_clean, back0, resD_clean, clean_non, clean_bl, clean_int, clean_str, clean_lst, clean_tup, clean_dct, clean_obj, cleanL_nil, cleanL_cons, mCons, mNil, ML.R.bind, ML.R.thenS, setS, lift2, cont_clean, cont_cell, cont_scr, cont_exn, contL, mCB, isSlot_clean, isSlot_cell, isSlot_exn, isSlot_slot, mAsg, gTp, gLs, gsCons, gsNil, gNm, mAug, tyD, kb_ii, kb_ib, kb_bi, kb_bb, kb_si, kb_ss, kb_tt, kb_ll, kb_tl, kb_sl, kb_dl, kb_il, kb_bl, mChain, mChain3, mSet, mSetOw, mRetN, mRaise, mDisp, noSlots, mDrop, mIter, mMeth, ofTy, mFor, forL, mPutF, mFld, putP, lookN, putN, flatB, flatD, max2D, min2D, mPart, mNoPart, mSl, orF, orC, gtD, ltD, leD, leI, geD, subI, addD_ii, modI, isN, isntN, mIfE, mNeg, mBreak, mCont, orE, boxed, ofStr_eq, mMake0, madeR, mOwn, methR, methC, backC, mCell, mSetKey, mSetIx, setL, mAugIx, mCall, mMake, madeC, mLc, mYes, wipeS, backS, backE, mMaxDf, intsD, mIsK, mFrz, frzS, size_le, size_lt, cleanL_append, mMut, appendU, cont_slotE, List.any, List.all, hspl, hc, hs15, c15, lc1, cnum, lenD, h5, hin, sl2, c5, k1, hx0, hnm, u1, v1]
end K85
end
section
set_option Elab.async false
set_option linter.all false
set_option maxRecDepth 100000
set_option autoImplicit false
set_option maxHeartbeats 4000000
/-! K85x: the desk with a work of any words. -/
namespace K85
open PySem ML
structure DtPre (ws : List Wk) : Prop where
  good : ∀ w ∈ ws, WkGood w
  gap : ∀ w ∈ ws, SmallGap (greD ws) w
  nd : (ws.map Wk.nm).Nodup
  few : ws.length ≤ 12
theorem p_DutyX {ws : List Wk} (k : DtPre ws) (h80 : (80 : Int) < sumC (greD ws) ws) : m_Duty_new [.cell 0, .lst (ws.map wkD)] [.obj 7 [] []] = .exc ⟨2, [], []⟩ [.obj 7 ["numbers", "works"] [.cell 1, .lst (ws.map wkD)], numD ws] := by
  have hfew := k.few
  have hlp : ∃ a, forL (gNm 2) b_Duty_new_1 ((List.range ws.length).map fun k => D.int (k : Nat)) ⟨[.fz (.cell 0), .fz (.lst (ws.map wkD)), .no, .no], [.obj 7 ["numbers"] [.cell 1], .dct [] []]⟩ = .nx ⟨[.fz (.cell 0), .fz (.lst (ws.map wkD)), a, .no], [.obj 7 ["numbers"] [.cell 1], numD ws]⟩ := by
    obtain ⟨s2, e2, a, rfl⟩ := forL_inv1 (g := gNm 2) (b := b_Duty_new_1) (fun k : Nat => D.int (k : Nat)) (fun l s => ∃ a, s = ⟨[.fz (.cell 0), .fz (.lst (ws.map wkD)), a, .no], [.obj 7 ["numbers"] [.cell 1], numD (ws.take l.length)]⟩) (List.range ws.length)
      ⟨[.fz (.cell 0), .fz (.lst (ws.map wkD)), .no, .no], [.obj 7 ["numbers"] [.cell 1], .dct [] []]⟩ ⟨_, rfl⟩ fun x l r s e ⟨a, es⟩ => by
        subst es
        obtain ⟨e1, e2, _⟩ := range_split e
        have hx : ws[x]? = some ws[x] := List.getElem?_eq_getElem e2
        have hn : ws[x].nm ∉ (ws.take x).map Wk.nm := fun z => by
          rw [List.map_take] at z
          obtain ⟨j, hj⟩ := List.getElem?_of_mem z
          have hj1 : j < x := by
            have := (List.getElem?_eq_some_iff.mp hj).1
            simp at this
            omega
          rw [List.getElem?_take_of_lt hj1] at hj
          have hx2 : (ws.map Wk.nm)[x]? = some ws[x].nm := by rw [List.getElem?_map, hx]; rfl
          have := nodup_at k.nd hj hx2
          omega
        have ht := dty_turn hx hn k.nd k.few .no
        refine ⟨_, rfl, ⟨[.fz (.cell 0), .fz (.lst (ws.map wkD)), .fz (.int (x : Nat)), .no], [.obj 7 ["numbers"] [.cell 1], numD (ws.take (l ++ [x]).length)]⟩, .inl ?_, _, rfl⟩
        rw [List.length_append, List.length_singleton, ← e1]
        exact ht
    refine ⟨a, ?_⟩
    rw [e2, List.length_range, List.take_length]
  obtain ⟨a, hlp⟩ := hlp
  have hlc := lcL_all (g := gNm 3) (mt := mYes) (me := mCall0 m_made_again [] (mCons (mVar 3) mNil)) (vs := [3]) wkD wkD ⟨[.fz (.cell 0), .fz (.lst (ws.map wkD)), a, .no], [.obj 7 ["numbers"] [.cell 1], numD ws]⟩ ws [] (by have := sizeLine_ge; simp; omega) fun w hw => by
    refine ⟨⟨[.fz (.cell 0), .fz (.lst (ws.map wkD)), a, .fz (wkD w)], [.obj 7 ["numbers"] [.cell 1], numD ws]⟩, ⟨[.fz (.cell 0), .fz (.lst (ws.map wkD)), a, .fz (wkD w)], [.obj 7 ["numbers"] [.cell 1], numD ws]⟩, ⟨[.fz (.cell 0), .fz (.lst (ws.map wkD)), a, .fz (wkD w)], [.obj 7 ["numbers"] [.cell 1], numD ws]⟩, rfl, rfl, ?_, isSlot_clean (clean_wk w), rfl⟩
    have h1 := p_made_again (k.good w hw)
    simp [runF, mSeq, mIf, mRet, mSkip, mVar, mC, mOp, mIsi, mNotV, mAndV, mOrV, mTest, mOr, mAnd, mNot, mCall0, lend_clean, back0, resD_clean, clean_non, clean_bl, clean_int, clean_str, clean_lst, clean_tup, clean_dct, clean_obj, cleanL_nil, cleanL_cons, mCons, mNil, ML.R.bind, ML.R.thenS, setS, lift2, cont_clean, cont_cell, cont_scr, cont_exn, contL, mCB, isSlot_clean, isSlot_cell, isSlot_exn, isSlot_slot, mAsg, gTp, gLs, gsCons, gsNil, gNm, mAug, tyD, kb_ii, kb_ib, kb_bi, kb_bb, kb_si, kb_ss, kb_tt, kb_ll, kb_tl, kb_sl, kb_dl, kb_il, kb_bl, mChain, mChain3, mSet, mSetOw, mRetN, mRaise, mDisp, noSlots, mDrop, mIter, mMeth, ofTy, mFor, forL, mPutF, mFld, putP, lookN, putN, flatB, flatD, max2D, min2D, mPart, mNoPart, mSl, orF, orC, gtD, ltD, leD, leI, geD, subI, addD_ii, modI, isN, isntN, mIfE, mNeg, mBreak, mCont, orE, boxed, ofStr_eq, mMake0, madeR, mOwn, methR, methC, backC, mCell, mSetKey, mSetIx, setL, mAugIx, mCall, mMake, madeC, mLc, mYes, wipeS, backS, backE, mMaxDf, intsD, mIsK, mFrz, frzS, size_le, size_lt, cleanL_append, mMut, appendU, cont_slotE, List.any, List.all, clean_wk, h1]
  have hcr := p_crowd (ws := ws) (x := .cell 1) (cs := [.obj 7 ["numbers", "works"] [.cell 1, .lst (ws.map wkD)], numD ws]) rfl (by omega) k.gap
  have h12 : ¬ (12 : Int) < (ws.length : Int) := by omega
  have hr : ok62 (ws.length : Int) := ok62_nat (by omega)
  rw [List.nil_append] at hlc
  unfold m_Duty_new b_Duty_new
  simp [runF, mSeq, mIf, mRet, mSkip, mVar, mC, mOp, mIsi, mNotV, mAndV, mOrV, mTest, mOr, mAnd, mNot, mCall0, lend_clean, back0, resD_clean, clean_non, clean_bl, clean_int, clean_str, clean_lst, clean_tup, clean_dct, clean_obj, cleanL_nil, cleanL_cons, mCons, mNil, ML.R.bind, ML.R.thenS, setS, lift2, cont_clean, cont_cell, cont_scr, cont_exn, contL, mCB, isSlot_clean, isSlot_cell, isSlot_exn, isSlot_slot, mAsg, gTp, gLs, gsCons, gsNil, gNm, mAug, tyD, kb_ii, kb_ib, kb_bi, kb_bb, kb_si, kb_ss, kb_tt, kb_ll, kb_tl, kb_sl, kb_dl, kb_il, kb_bl, mChain, mChain3, mSet, mSetOw, mRetN, mRaise, mDisp, noSlots, mDrop, mIter, mMeth, ofTy, mFor, forL, mPutF, mFld, putP, lookN, putN, flatB, flatD, max2D, min2D, mPart, mNoPart, mSl, orF, orC, gtD, ltD, leD, leI, geD, subI, addD_ii, modI, isN, isntN, mIfE, mNeg, mBreak, mCont, orE, boxed, ofStr_eq, mMake0, madeR, mOwn, methR, methC, backC, mCell, mSetKey, mSetIx, setL, mAugIx, mCall, mMake, madeC, mLc, mYes, wipeS, backS, backE, mMaxDf, intsD, mIsK, mFrz, frzS, size_le, size_lt, cleanL_append, mMut, appendU, cont_slotE, List.any, List.all, cleanL_wk, lenD, mRange1, hr, rangeD_map, hlp, hlc, h12, h80, hcr]
theorem no_pylong {a : Int} {g : Nat} (h : g < 10 ^ 60) : Builtin.divisionGoesByPylong a (g : Nat) = false := by
  have hl : g = 0 ∨ g.log2 < 200 := by
    by_cases h0 : g = 0
    · exact .inl h0
    · exact .inr ((Nat.log2_lt h0).mpr (Nat.lt_of_lt_of_le h (by decide +kernel)))
  unfold Builtin.divisionGoesByPylong
  simp only [Int.natAbs_natCast]
  rcases hl with h0 | hl
  · subst h0
    simp
  · simp
    intro z
    exfalso
    split at z <;> omega
theorem ceil_eq {a b : Int} (hb : 0 < b) : ceilI a b = (a + b - 1) / b := by
  unfold ceilI
  have h1 := Int.emod_add_mul_ediv a b
  have h2 := Int.emod_nonneg a (show b ≠ 0 by omega)
  have h3 := Int.emod_lt_of_pos a hb
  generalize hr : a % b = r at h1 h2 h3 ⊢
  generalize hq : a / b = q at h1 ⊢
  have e : a + b - 1 = (r + b - 1) + b * q := by rw [← h1]; omega
  rw [e, Int.add_mul_ediv_left _ _ (show b ≠ 0 by omega)]
  split
  · next h =>
    have : (r + b - 1) / b = 1 := by
      have e2 : r + b - 1 = (r - 1) + b * 1 := by omega
      rw [e2, Int.add_mul_ediv_left _ _ (show b ≠ 0 by omega), Int.ediv_eq_zero_of_lt (by omega) (by omega)]
      rfl
    rw [this]
    omega
  · next h =>
    have hz : r = 0 := by omega
    have : (r + b - 1) / b = 0 := Int.ediv_eq_zero_of_lt (by omega) (by omega)
    rw [this]
    omega
theorem ok_good {w : NW} (h : okW w = true) (hn : w.nm.length ≤ 100000) (hh : ∀ o ∈ w.hs, o.1.length ≤ 100000) : WkGood w.wk := by
  unfold okW at h
  simp only [Bool.and_eq_true, decide_eq_true_eq] at h
  obtain ⟨⟨h1, h2, h3⟩, ⟨h4, h5⟩, h6, h7⟩ := h
  have hB := List.all_eq_true.mp h7
  have hb : ∀ k, k < w.hs.length → hoAt w.l w.hs k = true ∧ fitAt (w.hs.map hoN) k = true := fun k hk => by
    have := hB k (List.mem_range.mpr hk)
    rwa [Bool.and_eq_true] at this
  refine ⟨⟨?_, ?_, ?_, ?_, ?_, ?_⟩, fun o ho => ?_, ?_, ?_⟩
  · have := p_isnm hn []
    rw [h1] at this
    exact this
  · show (1 : Int) ≤ (w.g : Nat); omega
  · show (1 : Int) ≤ (w.l : Nat); omega
  · show (1 : Int) ≤ (w.d : Nat); omega
  · show ((w.d : Nat) : Int) ≤ (w.g : Nat); omega
  · show (0 : Int) ≤ (w.e : Nat); omega
  · obtain ⟨p, hp, rfl⟩ := List.mem_map.mp ho
    obtain ⟨k, hk, e⟩ := List.mem_iff_getElem.mp hp
    have h8 := (hb k hk).1
    unfold hoAt at h8
    rw [List.getElem?_eq_getElem hk, e] at h8
    unfold hoB at h8
    simp only [Bool.and_eq_true, decide_eq_true_eq] at h8
    refine ⟨?_, ?_, ?_, ?_⟩
    · have := p_isnm (hh p hp) []
      rw [h8.1] at this
      exact this
    · show (0 : Int) ≤ (p.2.1 : Nat); omega
    · show ((p.2.1 : Nat) : Int) < (p.2.2 : Nat); omega
    · show ((p.2.2 : Nat) : Int) < (w.l : Nat); omega
  · show (w.hs.map hoN).length ≤ 6
    simpa using h6
  · show (List.range (w.hs.map hoN).length).all (fitAt (w.hs.map hoN)) = true
    rw [List.all_eq_true]
    intro k hk
    have hk : k < w.hs.length := by simpa using List.mem_range.mp hk
    exact (hb k hk).2
/-! ### what is read is written so -/
theorem hoT_map : ∀ {r : List Str}, (r.all fun w => (rdH w).isSome) = true → (r.filterMap rdH).map hoT = r
  | [], _ => rfl
  | w :: r, h => by
    rw [List.all_cons, Bool.and_eq_true] at h
    obtain ⟨a, ha⟩ := Option.isSome_iff_exists.mp h.1
    rw [List.filterMap_cons, ha]
    show hoT a :: (r.filterMap rdH).map hoT = _
    rw [hoT_map h.2, ← (rdH_some ha).1]
theorem spl_free : ∀ (l acc : List Nat), 32 ∉ acc → ∀ p ∈ TL.spl [32] 0 acc l, 32 ∉ p
  | [], acc, h, p, hp => by
    rw [TL.spl_nil] at hp
    rw [List.mem_singleton] at hp
    rw [hp]
    exact h
  | c :: r, acc, h, p, hp => by
    by_cases hc : c = 32
    · rw [TL.spl_hit (by subst hc; rfl)] at hp
      rcases List.mem_cons.mp hp with rfl | hp
      · exact h
      · exact spl_free r [] (by simp) p hp
    · rw [TL.spl_miss (TL.pre_of_head [] r hc)] at hp
      exact spl_free r (acc ++ [c]) (by simp [h, Ne.symm hc]) p hp
theorem split_free {x p : Str} (h : p ∈ Txt.split x " ") : 32 ∉ TL.tl p := by
  have e : TL.tl (Str.ofString " ") = [32] := by decide +kernel
  have hs := TL.split_spl x " " (by rw [e]; simp) (TL.kind_ok (by decide +kernel))
  rw [e] at hs
  have := List.mem_map_of_mem (f := TL.tl) h
  rw [hs] at this
  exact spl_free _ _ (by simp) _ this
theorem rdT_some {x : Str} {w : NW} (h : rdT x = some w) : w.text = x ∧ w.nm ∈ Txt.split x " " ∧ w.g < 10 ^ 60 ∧ w.l < 10 ^ 60 ∧ w.d < 10 ^ 60 ∧ w.e < 10 ^ 60 ∧ ∀ o ∈ w.hs, ∃ p ∈ Txt.split x " ", rdH p = some o := by
  have ej := join_split x
  unfold rdT at h
  generalize Txt.split x " " = ws at h ej ⊢
  match ws, h, ej with
  | [], h, _ => cases h
  | [_], h, _ => cases h
  | [_, _], h, _ => cases h
  | [_, _, _], h, _ => cases h
  | [_, _, _, _], h, _ => cases h
  | nm :: g :: l :: d :: e :: r, h, ej =>
    unfold rdW at h
    cases q1 : num g with
    | none => simp only [q1] at h; cases h
    | some g' =>
      cases q2 : num l with
      | none => simp only [q1, q2] at h; cases h
      | some l' =>
        cases q3 : num d with
        | none => simp only [q1, q2, q3] at h; cases h
        | some d' =>
          cases q4 : num e with
          | none => simp only [q1, q2, q3, q4] at h; cases h
          | some e' =>
            simp only [q1, q2, q3, q4] at h
            split at h
            · next hr =>
              cases h
              refine ⟨?_, by simp, num_lt q1, num_lt q2, num_lt q3, num_lt q4, fun o ho => ?_⟩
              · unfold NW.text NW.parts
                simp only []
                rw [hoT_map hr, ← (num_some q1).1, ← (num_some q2).1, ← (num_some q3).1, ← (num_some q4).1]
                exact ej
              · obtain ⟨p, hp, e⟩ := List.mem_filterMap.mp ho
                exact ⟨p, by simp; right; right; right; right; right; exact hp, e⟩
            · cases h
theorem rdT_ok {x : Str} {w : NW} (hl : x.length ≤ 1000) (h : rdT x = some w) (hk : okW w = true) : NWOk w ∧ WkGood w.wk := by
  obtain ⟨_, h1, h2, h3, h4, h5, h6⟩ := rdT_some h
  have hn := split_len h1
  have hh : ∀ o ∈ w.hs, o.1.length ≤ 1000 := fun o ho => by
    obtain ⟨p, hp, e⟩ := h6 o ho
    have := rdH_len e
    have := split_len hp
    omega
  have g := ok_good hk (by omega) fun o ho => by have := hh o ho; omega
  refine ⟨⟨by omega, h2, h3, h4, h5, ?_, fun o ho => ?_, split_free h1⟩, g⟩
  · have := g.few
    have e : w.wk.hs.length = w.hs.length := by show (w.hs.map hoN).length = _; simp
    omega
  · obtain ⟨p, hp, e⟩ := h6 o ho
    obtain ⟨e1, e2, e3, e4, _⟩ := rdH_some e
    refine ⟨hh o ho, e2, fun z => ?_, e3, e4⟩
    refine split_free hp ?_
    rw [e1]
    unfold hoT hoS
    simp only [TL.tl_append, List.mem_append]
    exact .inl (.inl (.inl (.inl z)))
end K85
end
section
set_option Elab.async false
set_option linter.all false
set_option maxRecDepth 100000
set_option autoImplicit false
set_option maxHeartbeats 4000000
/-! K85y: the doors, the desk. -/
namespace K85
open PySem ML
def zzN : NW := ⟨"zz", 900, 1, 900, 0, []⟩
theorem zz_ok : okW zzN = true := by decide +kernel
theorem zz_nm : ∀ o ∈ zzN.hs, o.1.length ≤ 100000 := fun o ho => by cases ho
theorem zz_good : WkGood zzN.wk := ok_good zz_ok (by decide +kernel) zz_nm
theorem zz_nwok : NWOk zzN := ⟨(by decide +kernel : (Str.ofString "zz").length ≤ 1000), by show 900 < 10 ^ 60; decide, by show 1 < 10 ^ 60; decide, by show 900 < 10 ^ 60; decide, by show 0 < 10 ^ 60; decide, by decide, fun o ho => (by cases ho), (by decide +kernel : 32 ∉ TL.tl (Str.ofString "zz"))⟩
theorem zz_text : zzN.text = ("zz 900 1 900 0" : Str) := by decide +kernel
theorem zz_gap {g : Int} : SmallGap g zzN.wk := ⟨(by decide : (0 : Int) < 900), .inl (by decide : (900 : Int) < 1073741824)⟩
/-- a name twice -/
theorem p_dup {a b : Wk} (h : b.nm = a.nm) : ∃ cs, m_Duty_new [.cell 0, .lst ([a, b].map wkD)] [.obj 7 [] []] = .exc ⟨1, [], []⟩ cs := by
  have hc1 := clean_wk a
  have hc2 := clean_wk b
  have hi0 : inD false (.str a.nm) (.dct [] []) = some (.bl false) := inD_dct (by simp)
  have hs0 : setD (.dct [] []) (.str a.nm) (.int 0) = some (.dct [Sum.inr a.nm] [.int 0]) := setD_new (by simp) rfl List.nodup_nil (by decide)
  have hi1 : inD false (.str b.nm) (.dct [Sum.inr a.nm] [.int 0]) = some (.bl true) := by
    rw [h]
    show (match lookK [Sum.inr a.nm] [D.int 0] (Sum.inr a.nm) with | o => some (D.bl (if false = true then !o.isSome else o.isSome))) = _
    simp [lookK]
  have hr : ok62 2 := ok62_nat (n := 2) (by omega)
  have er : rangeD 0 2 = [.int 0, .int 1] := rfl
  have x0 : ∀ u v : D, ixD (.lst [u, v]) (.int 0) = some u := fun _ _ => rfl
  have x1 : ∀ u v : D, ixD (.lst [u, v]) (.int 1) = some v := fun _ _ => rfl
  have cl := cleanL_ho a.hs
  have cl2 := cleanL_ho b.hs
  simp only [List.map_cons, List.map_nil]
  unfold wkD at hc1 hc2 ⊢
  generalize a.hs.map hoD = ha at cl ⊢
  generalize b.hs.map hoD = hb at cl2 ⊢
  refine ⟨[.obj 7 ["numbers"] [.cell 1], .dct [Sum.inr a.nm] [.int 0]], ?_⟩
  unfold m_Duty_new b_Duty_new b_Duty_new_1
  simp [runF, mSeq, mIf, mRet, mSkip, mVar, mC, mOp, mIsi, mNotV, mAndV, mOrV, mTest, mOr, mAnd, mNot, mCall0, lend_clean, back0, resD_clean, clean_non, clean_bl, clean_int, clean_str, clean_lst, clean_tup, clean_dct, clean_obj, cleanL_nil, cleanL_cons, mCons, mNil, ML.R.bind, ML.R.thenS, setS, lift2, cont_clean, cont_cell, cont_scr, cont_exn, contL, mCB, isSlot_clean, isSlot_cell, isSlot_exn, isSlot_slot, mAsg, gTp, gLs, gsCons, gsNil, gNm, mAug, tyD, kb_ii, kb_ib, kb_bi, kb_bb, kb_si, kb_ss, kb_tt, kb_ll, kb_tl, kb_sl, kb_dl, kb_il, kb_bl, mChain, mChain3, mSet, mSetOw, mRetN, mRaise, mDisp, noSlots, mDrop, mIter, mMeth, ofTy, mFor, forL, mPutF, mFld, putP, lookN, putN, flatB, flatD, max2D, min2D, mPart, mNoPart, mSl, orF, orC, gtD, ltD, leD, leI, geD, subI, addD_ii, modI, isN, isntN, mIfE, mNeg, mBreak, mCont, orE, boxed, ofStr_eq, mMake0, madeR, mOwn, methR, methC, backC, mCell, mSetKey, mSetIx, setL, mAugIx, mCall, mMake, madeC, mLc, mYes, wipeS, backS, backE, mMaxDf, intsD, mIsK, mFrz, frzS, size_le, size_lt, cleanL_append, mMut, appendU, cont_slotE, List.any, List.all, cl, cl2, lenD, mRange1, hr, er, x0, x1, hi0, hs0, hi1]
/-- the crowd of both -/
def crowdI (w : NW) : Int := sumC (greD [zzN.wk, w.wk]) [zzN.wk, w.wk]
theorem two_gap {w : NW} (h1 : 1 ≤ w.g) (h2 : w.g < 10 ^ 60) {g : Int} : SmallGap g w.wk := ⟨by show (0 : Int) < (w.g : Nat); omega, .inr (no_pylong h2)⟩
theorem okW_gap {w : NW} (h : okW w = true) : 1 ≤ w.g := by
  unfold okW at h
  simp only [Bool.and_eq_true, decide_eq_true_eq] at h
  exact h.1.2.1
theorem two_pre {w : NW} (hk : okW w = true) (hg : WkGood w.wk) (h2 : w.g < 10 ^ 60) (hn : w.nm ≠ ("zz" : Str)) : DtPre ([zzN.wk] ++ [w.wk]) := by
  refine ⟨fun v hv => ?_, fun v hv => ?_, ?_, by simp⟩
  · rcases List.mem_append.mp hv with h | h
    · rw [List.mem_singleton] at h; rw [h]; exact zz_good
    · rw [List.mem_singleton] at h; rw [h]; exact hg
  · rcases List.mem_append.mp hv with h | h
    · rw [List.mem_singleton] at h; rw [h]; exact zz_gap
    · rw [List.mem_singleton] at h; rw [h]; exact two_gap (okW_gap hk) h2
  · show [Str.ofString "zz", w.nm].Nodup
    simp
    exact fun e => hn e.symm
theorem two_ok {w : NW} (p : DtPre ([zzN.wk] ++ [w.wk])) (h : crowdI w ≤ 80) : DtOk ([zzN.wk] ++ [w.wk]) := ⟨p.good, p.gap, p.nd, p.few, h⟩
theorem zz_dt : DtOk ([] ++ [zzN.wk]) := by
  refine ⟨fun w hw => ?_, fun w hw => ?_, by simp, by decide, ?_⟩
  · have h : w ∈ [zzN.wk] := hw
    rw [List.mem_singleton] at h; rw [h]; exact zz_good
  · have h : w ∈ [zzN.wk] := hw
    rw [List.mem_singleton] at h; rw [h]; exact zz_gap
  · show ceilI (900 + 0) 900 + 0 ≤ 80
    decide +kernel
theorem word_eq (x : Str) : ("work" ++ " " ++ x : Str) = "work " ++ x := by
  have : ("work" ++ " " : Str) = "work " := by decide +kernel
  rw [this]
/-! ### the doors -/
def exS (c : Nat) : Str := if c = 3 then "text" else if c = 0 then "work" else "other"
theorem door_h {c : Nat} (hc : c ∈ [0, 1, 2, 3]) (s : S) : mHs [0, 1, 2, 3] [([3], none, fun a dd k => (mRet (mC (.str "text")))), ([0], none, fun a dd k => (mRet (mC (.str "work")))), ([0, 1, 2, 3], none, fun a dd k => (mRet (mC (.str "other"))))] ⟨c, [], []⟩ s = .rt (.str (exS c)) s := by
  have h : ∀ (t : Str), indep ⟨c, [], []⟩ (fun a dd => leaveH none (mRet (mC (.str t)) (enterH none a dd ⟨c, [], []⟩ s))) = .rt (.str t) s := fun t => indep_eq fun a dd hd => by simp [runF, mSeq, mIf, mRet, mSkip, mVar, mC, mOp, mIsi, mNotV, mAndV, mOrV, mTest, mOr, mAnd, mNot, mCall0, lend_clean, back0, resD_clean, clean_non, clean_bl, clean_int, clean_str, clean_lst, clean_tup, clean_dct, clean_obj, cleanL_nil, cleanL_cons, mCons, mNil, ML.R.bind, ML.R.thenS, setS, lift2, cont_clean, cont_cell, cont_scr, cont_exn, contL, mCB, isSlot_clean, isSlot_cell, isSlot_exn, isSlot_slot, mAsg, gTp, gLs, gsCons, gsNil, gNm, mAug, tyD, kb_ii, kb_ib, kb_bi, kb_bb, kb_si, kb_ss, kb_tt, kb_ll, kb_tl, kb_sl, kb_dl, kb_il, kb_bl, mChain, mChain3, mSet, mSetOw, mRetN, mRaise, mDisp, noSlots, mDrop, mIter, mMeth, ofTy, mFor, forL, mPutF, mFld, putP, lookN, putN, flatB, flatD, max2D, min2D, mPart, mNoPart, mSl, orF, orC, gtD, ltD, leD, leI, geD, subI, addD_ii, modI, isN, isntN, mIfE, mNeg, mBreak, mCont, orE, boxed, ofStr_eq, mMake0, madeR, mOwn, methR, methC, backC, mCell, mSetKey, mSetIx, setL, mAugIx, mCall, mMake, madeC, mLc, mYes, wipeS, backS, backE, mMaxDf, intsD, mIsK, mFrz, frzS, size_le, size_lt, cleanL_append, mMut, appendU, cont_slotE, List.any, List.all, leaveH, leaveS, enterH]
  simp only [List.mem_cons, List.not_mem_nil, or_false] at hc
  rcases hc with rfl | rfl | rfl | rfl <;> simp [mHs, h, exS]
theorem door0 {x : Str} (hl : x.length ≤ 1000) (d : D) (cs : List D) : m_l_law_word [.int 0, .str x, d] cs = .ok (lawD (rdT x)) cs := by
  have hr := p_readT (x := x) (by omega)
  have t3 := door_h (c := 3) (by simp)
  have t0 := door_h (c := 0) (by simp)
  unfold m_l_law_word b_l_law_word
  cases q : rdT x with
  | none =>
    rw [q] at hr
    simp [runF, mSeq, mIf, mRet, mSkip, mVar, mC, mOp, mIsi, mNotV, mAndV, mOrV, mTest, mOr, mAnd, mNot, mCall0, lend_clean, back0, resD_clean, clean_non, clean_bl, clean_int, clean_str, clean_lst, clean_tup, clean_dct, clean_obj, cleanL_nil, cleanL_cons, mCons, mNil, ML.R.bind, ML.R.thenS, setS, lift2, cont_clean, cont_cell, cont_scr, cont_exn, contL, mCB, isSlot_clean, isSlot_cell, isSlot_exn, isSlot_slot, mAsg, gTp, gLs, gsCons, gsNil, gNm, mAug, tyD, kb_ii, kb_ib, kb_bi, kb_bb, kb_si, kb_ss, kb_tt, kb_ll, kb_tl, kb_sl, kb_dl, kb_il, kb_bl, mChain, mChain3, mSet, mSetOw, mRetN, mRaise, mDisp, noSlots, mDrop, mIter, mMeth, ofTy, mFor, forL, mPutF, mFld, putP, lookN, putN, flatB, flatD, max2D, min2D, mPart, mNoPart, mSl, orF, orC, gtD, ltD, leD, leI, geD, subI, addD_ii, modI, isN, isntN, mIfE, mNeg, mBreak, mCont, orE, boxed, ofStr_eq, mMake0, madeR, mOwn, methR, methC, backC, mCell, mSetKey, mSetIx, setL, mAugIx, mCall, mMake, madeC, mLc, mYes, wipeS, backS, backE, mMaxDf, intsD, mIsK, mFrz, frzS, size_le, size_lt, cleanL_append, mMut, appendU, cont_slotE, List.any, List.all, mTry, t3, eq_ii, hr, readR, exS, lawD]
  | some w =>
    rw [q] at hr
    cases hk : okW w with
    | false => simp [runF, mSeq, mIf, mRet, mSkip, mVar, mC, mOp, mIsi, mNotV, mAndV, mOrV, mTest, mOr, mAnd, mNot, mCall0, lend_clean, back0, resD_clean, clean_non, clean_bl, clean_int, clean_str, clean_lst, clean_tup, clean_dct, clean_obj, cleanL_nil, cleanL_cons, mCons, mNil, ML.R.bind, ML.R.thenS, setS, lift2, cont_clean, cont_cell, cont_scr, cont_exn, contL, mCB, isSlot_clean, isSlot_cell, isSlot_exn, isSlot_slot, mAsg, gTp, gLs, gsCons, gsNil, gNm, mAug, tyD, kb_ii, kb_ib, kb_bi, kb_bb, kb_si, kb_ss, kb_tt, kb_ll, kb_tl, kb_sl, kb_dl, kb_il, kb_bl, mChain, mChain3, mSet, mSetOw, mRetN, mRaise, mDisp, noSlots, mDrop, mIter, mMeth, ofTy, mFor, forL, mPutF, mFld, putP, lookN, putN, flatB, flatD, max2D, min2D, mPart, mNoPart, mSl, orF, orC, gtD, ltD, leD, leI, geD, subI, addD_ii, modI, isN, isntN, mIfE, mNeg, mBreak, mCont, orE, boxed, ofStr_eq, mMake0, madeR, mOwn, methR, methC, backC, mCell, mSetKey, mSetIx, setL, mAugIx, mCall, mMake, madeC, mLc, mYes, wipeS, backS, backE, mMaxDf, intsD, mIsK, mFrz, frzS, size_le, size_lt, cleanL_append, mMut, appendU, cont_slotE, List.any, List.all, mTry, t0, eq_ii, hr, readR, exS, lawD, hk]
    | true =>
      have hh := p_held w.wk
      have hcl := cleanL_ho (w.hs.map hoN)
      have hwk : wkD w.wk = .obj 6 wkN [.str w.nm, .int (w.g : Nat), .int (w.l : Nat), .int (w.d : Nat), .int (w.e : Nat), .lst (hosD w.hs)] := by rw [hosD_eq]; rfl
      have hho : w.wk.hs.map hoD = hosD w.hs := by rw [hosD_eq]; rfl
      rw [← hosD_eq] at hcl
      unfold readR at hr
      simp only [hk, if_true] at hr
      rw [hwk] at hr hh
      rw [hho] at hh
      unfold lawD tupD
      simp only [hk, if_true]
      generalize hosD w.hs = hsD at hr hh hcl ⊢
      simp [runF, mSeq, mIf, mRet, mSkip, mVar, mC, mOp, mIsi, mNotV, mAndV, mOrV, mTest, mOr, mAnd, mNot, mCall0, lend_clean, back0, resD_clean, clean_non, clean_bl, clean_int, clean_str, clean_lst, clean_tup, clean_dct, clean_obj, cleanL_nil, cleanL_cons, mCons, mNil, ML.R.bind, ML.R.thenS, setS, lift2, cont_clean, cont_cell, cont_scr, cont_exn, contL, mCB, isSlot_clean, isSlot_cell, isSlot_exn, isSlot_slot, mAsg, gTp, gLs, gsCons, gsNil, gNm, mAug, tyD, kb_ii, kb_ib, kb_bi, kb_bb, kb_si, kb_ss, kb_tt, kb_ll, kb_tl, kb_sl, kb_dl, kb_il, kb_bl, mChain, mChain3, mSet, mSetOw, mRetN, mRaise, mDisp, noSlots, mDrop, mIter, mMeth, ofTy, mFor, forL, mPutF, mFld, putP, lookN, putN, flatB, flatD, max2D, min2D, mPart, mNoPart, mSl, orF, orC, gtD, ltD, leD, leI, geD, subI, addD_ii, modI, isN, isntN, mIfE, mNeg, mBreak, mCont, orE, boxed, ofStr_eq, mMake0, madeR, mOwn, methR, methC, backC, mCell, mSetKey, mSetIx, setL, mAugIx, mCall, mMake, madeC, mLc, mYes, wipeS, backS, backE, mMaxDf, intsD, mIsK, mFrz, frzS, size_le, size_lt, cleanL_append, mMut, appendU, cont_slotE, List.any, List.all, mTry, eq_ii, hr, hh, hcl]
/-- what the desk says of it -/
noncomputable def deskW (x : Str) : Option NW → Str
  | none => "text"
  | some w => if okW w = true then (if w.nm = ("zz" : Str) ∨ 80 < crowdI w then "other" else "ok") else "work"
noncomputable def deskC (x : Str) (n : Nat) (cs : List D) : Option NW → List D
  | none => cs
  | some w => if okW w = true then (if w.nm = ("zz" : Str) ∨ 80 < crowdI w then cs else cs.set n (deskD (dtD ([zzN.wk] ++ [w.wk])))) else cs
theorem door1 {x : Str} (hl : x.length ≤ 1000) {n : Nat} {cs : List D} (h : cs[n]? = some (deskD (dtD [zzN.wk]))) : m_l_law_word [.int 1, .str x, .cell n] cs = .ok (.str (deskW x (rdT x))) (deskC x n cs (rdT x)) := by
  have hr := p_readT (x := x) (by omega)
  have l5 : (Str.ofString "work ").length = 5 := by decide +kernel
  have hz := sizeLine_ge
  have hadd := addD_ss (a := "work ") (b := x) (by omega)
  have bad : ∀ c, c ∈ [0, 1, 2, 3] → m_with_work [dtD [zzN.wk], .str x] [] = .exc ⟨c, [], []⟩ [] → m_l_law_word [.int 1, .str x, .cell n] cs = .ok (.str (exS c)) cs := fun c hc e => by
    have h1 := p_say_bad (x := x) (c := c) h (by omega) e
    rw [word_eq] at h1
    have t := door_h hc
    unfold m_l_law_word b_l_law_word
    unfold deskD at h
    simp [runF, mSeq, mIf, mRet, mSkip, mVar, mC, mOp, mIsi, mNotV, mAndV, mOrV, mTest, mOr, mAnd, mNot, mCall0, lend_clean, back0, resD_clean, clean_non, clean_bl, clean_int, clean_str, clean_lst, clean_tup, clean_dct, clean_obj, cleanL_nil, cleanL_cons, mCons, mNil, ML.R.bind, ML.R.thenS, setS, lift2, cont_clean, cont_cell, cont_scr, cont_exn, contL, mCB, isSlot_clean, isSlot_cell, isSlot_exn, isSlot_slot, mAsg, gTp, gLs, gsCons, gsNil, gNm, mAug, tyD, kb_ii, kb_ib, kb_bi, kb_bb, kb_si, kb_ss, kb_tt, kb_ll, kb_tl, kb_sl, kb_dl, kb_il, kb_bl, mChain, mChain3, mSet, mSetOw, mRetN, mRaise, mDisp, noSlots, mDrop, mIter, mMeth, ofTy, mFor, forL, mPutF, mFld, putP, lookN, putN, flatB, flatD, max2D, min2D, mPart, mNoPart, mSl, orF, orC, gtD, ltD, leD, leI, geD, subI, addD_ii, modI, isN, isntN, mIfE, mNeg, mBreak, mCont, orE, boxed, ofStr_eq, mMake0, madeR, mOwn, methR, methC, backC, mCell, mSetKey, mSetIx, setL, mAugIx, mCall, mMake, madeC, mLc, mYes, wipeS, backS, backE, mMaxDf, intsD, mIsK, mFrz, frzS, size_le, size_lt, cleanL_append, mMut, appendU, cont_slotE, List.any, List.all, mTry, t, eq_ii, h1, hadd, h]
  cases q : rdT x with
  | none =>
    rw [q] at hr
    exact bad 3 (by simp) (p_with_bad (by simp) hr)
  | some w =>
    rw [q] at hr
    cases hk : okW w with
    | false =>
      unfold readR at hr
      simp only [hk, Bool.false_eq_true, if_false] at hr
      unfold deskW deskC
      simp only [hk, Bool.false_eq_true, if_false]
      exact bad 0 (by simp) (p_with_bad (by simp) hr)
    | true =>
      obtain ⟨_, hg⟩ := rdT_ok hl q hk
      obtain ⟨_, _, h60, _⟩ := rdT_some q
      unfold readR at hr
      simp only [hk, if_true] at hr
      unfold deskW deskC
      simp only [hk, if_true]
      by_cases hn : w.nm = ("zz" : Str)
      · obtain ⟨cs', hd⟩ := p_dup (a := zzN.wk) (b := w.wk) hn
        rw [if_pos (.inl hn), if_pos (.inl hn)]
        exact bad 1 (by simp) (p_with_bad2 (ws := [zzN.wk]) (w := w.wk) (by simp) hr hd)
      · have hp := two_pre hk hg h60 hn
        by_cases hc : 80 < crowdI w
        · rw [if_pos (.inr hc), if_pos (.inr hc)]
          exact bad 2 (by simp) (p_with_bad2 (ws := [zzN.wk]) (w := w.wk) (by simp) hr (p_DutyX hp hc))
        · rw [if_neg (by simp [hn, hc]), if_neg (by simp [hn, hc])]
          have h1 := p_say_work h (by omega) (p_with_work hr (two_ok hp (by omega)))
          rw [word_eq] at h1
          unfold m_l_law_word b_l_law_word
          unfold deskD at h h1 ⊢
          simp [runF, mSeq, mIf, mRet, mSkip, mVar, mC, mOp, mIsi, mNotV, mAndV, mOrV, mTest, mOr, mAnd, mNot, mCall0, lend_clean, back0, resD_clean, clean_non, clean_bl, clean_int, clean_str, clean_lst, clean_tup, clean_dct, clean_obj, cleanL_nil, cleanL_cons, mCons, mNil, ML.R.bind, ML.R.thenS, setS, lift2, cont_clean, cont_cell, cont_scr, cont_exn, contL, mCB, isSlot_clean, isSlot_cell, isSlot_exn, isSlot_slot, mAsg, gTp, gLs, gsCons, gsNil, gNm, mAug, tyD, kb_ii, kb_ib, kb_bi, kb_bb, kb_si, kb_ss, kb_tt, kb_ll, kb_tl, kb_sl, kb_dl, kb_il, kb_bl, mChain, mChain3, mSet, mSetOw, mRetN, mRaise, mDisp, noSlots, mDrop, mIter, mMeth, ofTy, mFor, forL, mPutF, mFld, putP, lookN, putN, flatB, flatD, max2D, min2D, mPart, mNoPart, mSl, orF, orC, gtD, ltD, leD, leI, geD, subI, addD_ii, modI, isN, isntN, mIfE, mNeg, mBreak, mCont, orE, boxed, ofStr_eq, mMake0, madeR, mOwn, methR, methC, backC, mCell, mSetKey, mSetIx, setL, mAugIx, mCall, mMake, madeC, mLc, mYes, wipeS, backS, backE, mMaxDf, intsD, mIsK, mFrz, frzS, size_le, size_lt, cleanL_append, mMut, appendU, cont_slotE, List.any, List.all, mTry, eq_ii, h1, hadd, h]
end K85
end
section
set_option Elab.async false
set_option linter.all false
set_option maxRecDepth 100000
set_option autoImplicit false
set_option maxHeartbeats 4000000
/-! K85xa: what the desk is asked. -/
namespace K85
open PySem ML
theorem eq_self {ds : List D} {ps : List PyData} (h1 : toPyL ds = some ps) (h2 : PyData.canLayAll0 ps = true) (h3 : PyData.depthAll ps ≤ 20) : eqD (.lst ds) (.lst ds) = some (.bl true) ∧ neD (.lst ds) (.lst ds) = some (.bl false) := by
  have hp : toPy (.lst ds) = some (.list ps) := by
    show (match toPyL ds with | some ps => some (PyData.list ps) | none => none) = _
    rw [h1]
  have hs : SeqAt.shaped (.list ps) = true := by
    unfold SeqAt.shaped
    simp only [PyData.canLay0, PyData.depth, h2, Bool.true_and]
    exact decide_eq_true (Nat.le_trans (Nat.succ_le_succ h3) (show 21 ≤ 64 by decide))
  have he : PyData.eqv (.list ps) (.list ps) = true := SeqAt.eqv_refl _ (by simp only [PyData.canLay0, h2])
  have e0 : scalD (.lst ds) (.lst ds) = none := rfl
  constructor
  · unfold eqD eqB
    rw [e0]
    simp only [hp, hs, he, Bool.and_self, if_true]
  · unfold neD eqB
    rw [e0]
    simp only [hp, hs, he, Bool.and_self, if_true]
    rfl
theorem nm_strOk {w : Str} (h : isNm w = true) : PyData.strOk w = true := by
  unfold isNm at h
  simp only [Bool.and_eq_true] at h
  have h2 := List.all_eq_true.mp h.2
  unfold PyData.strOk
  rw [Array.all_eq_true_iff_forall_mem]
  intro c hc
  have := h2 c (by show c ∈ w.cps.toList; exact Array.mem_toList_iff.mpr hc)
  unfold lwB at this
  simp only [Bool.and_eq_true, decide_eq_true_eq] at this
  simp
  omega
/-- the tuple of a work that is one, as plain data -/
theorem tup_py {w : NW} (hk : okW w = true) : ∃ p, toPy (tupD w) = some p ∧ PyData.canLay0 p = true ∧ PyData.depth p ≤ 3 := by
  unfold okW at hk
  simp only [Bool.and_eq_true, decide_eq_true_eq] at hk
  obtain ⟨⟨h1, _⟩, _, _, h7⟩ := hk
  have hB := List.all_eq_true.mp h7
  have hnm : ∀ o ∈ w.hs, isNm o.1 = true := fun o ho => by
    obtain ⟨k, hk, e⟩ := List.mem_iff_getElem.mp ho
    have := hB k (List.mem_range.mpr hk)
    rw [Bool.and_eq_true] at this
    have h8 := this.1
    unfold hoAt at h8
    rw [List.getElem?_eq_getElem hk, e] at h8
    unfold hoB at h8
    rw [Bool.and_eq_true] at h8
    exact h8.1
  have hh : ∀ os : List NHo, (∀ o ∈ os, isNm o.1 = true) → ∃ ps, toPyL (hosD os) = some ps ∧ PyData.canLayAll0 ps = true ∧ PyData.depthAll ps ≤ 1 := fun os k => by
    induction os with
    | nil => exact ⟨[], rfl, rfl, by decide⟩
    | cons o os ih =>
      obtain ⟨ps, h1, h2, h3⟩ := ih fun p hp => k p (List.mem_cons_of_mem _ hp)
      refine ⟨.tuple [.str o.1, .int (o.2.1 : Nat), .int (o.2.2 : Nat)] :: ps, ?_, ?_, ?_⟩
      · show (match toPy (hoD (hoN o)), toPyL (hosD os) with | some p, some ps => some (p :: ps) | _, _ => none) = _
        rw [h1]
        rfl
      · have ho := nm_strOk (k o List.mem_cons_self)
        simp only [PyData.canLayAll0, PyData.canLay0, ho, h2, Bool.and_self]
      · simp only [PyData.depthAll, PyData.depth]
        omega
  obtain ⟨ps, g1, g2, g3⟩ := hh w.hs hnm
  refine ⟨.tuple [.str w.nm, .int (w.g : Nat), .int (w.l : Nat), .int (w.d : Nat), .int (w.e : Nat), .list ps], ?_, ?_, ?_⟩
  · unfold tupD
    simp [toPy, toPyL, g1]
  · have ho := nm_strOk h1
    simp only [PyData.canLayAll0, PyData.canLay0, ho, g2, Bool.and_self]
  · simp only [PyData.depthAll, PyData.depth]
    omega
theorem told_eq {w : NW} (hk : okW w = true) (s : Str) (hs : PyData.strOk s = true) : eqD (.lst [.str "ok", tupD w, .str s]) (.lst [.str "ok", tupD w, .str s]) = some (.bl true) := by
  obtain ⟨p, h1, h2, h3⟩ := tup_py hk
  have ho : PyData.strOk (Str.ofString "ok") = true := by decide +kernel
  refine (eq_self (ps := [.str "ok", p, .str s]) ?_ ?_ ?_).1
  · simp [toPyL, toPy, h1]
  · simp only [PyData.canLayAll0, PyData.canLay0, ho, h2, hs, Bool.and_self]
  · simp only [PyData.depthAll, PyData.depth]
    omega
theorem told_flat (s : Str) (hs : PyData.strOk s = true) : neD (.lst [.str "ok", .str s, .str s]) (.lst [.str "ok", .str s, .str s]) = some (.bl false) := by
  have ho : PyData.strOk (Str.ofString "ok") = true := by decide +kernel
  refine (eq_self (ps := [.str "ok", .str s, .str s]) rfl ?_ ?_).2
  · simp only [PyData.canLayAll0, PyData.canLay0, ho, hs, Bool.and_self]
  · simp only [PyData.depthAll, PyData.depth]
    omega
theorem crowd_eq {w : NW} (h1 : 1 ≤ w.g) : crowdI w = (max 900 ((w.d : Nat) : Int) + 899) / 900 + (max 900 ((w.d : Nat) : Int) + (w.e : Nat) + (w.g : Nat) - 1) / (w.g : Nat) := by
  have e : crowdI w = ceilI (max 900 ((w.d : Nat) : Int) + 0) 900 + (ceilI (max 900 ((w.d : Nat) : Int) + (w.e : Nat)) (w.g : Nat) + 0) := rfl
  rw [e, ceil_eq (by decide), ceil_eq (by omega)]
  simp only [Int.add_zero]
  congr 2
  omega
theorem fdiv_big {i : Int} {g : Nat} (h : 1 ≤ g) (h2 : g < 10 ^ 60) : fdivI (.int i) (.int (g : Nat)) = some (.int (i / (g : Nat))) := by
  have hd : okDiv ((g : Nat) : Int) := by
    refine ⟨by omega, ?_⟩
    rw [Int.natAbs_natCast]
    exact (Nat.log2_lt (by omega)).mpr (Nat.lt_of_lt_of_le h2 (by decide +kernel))
  simp only [fdivI]
  rw [if_pos hd]
theorem show_two {w : NW} : showS [zzN, w] = ("zz 900 1 900 0; " : Str) ++ w.text := by
  have e : showS [zzN, w] = zzN.text ++ "; " ++ w.text := by
    refine TL.ext_tl ?_
    unfold showS
    rw [TL.join_eq, TL.tl_join]
    simp only [List.map_cons, List.map_nil, TL.joinL, TL.tl_append, List.append_assoc]
  have h2 : (zzN.text ++ "; " : Str) = "zz 900 1 900 0; " := by decide +kernel
  rw [e, h2]
theorem show_zz : showS [zzN] = ("zz 900 1 900 0" : Str) := by decide +kernel
theorem p_right {x : Str} {w : NW} (hl : x.length ≤ 1000) (q : rdT x = some w) (hk : okW w = true) (hn : w.nm ≠ ("zz" : Str)) {n : Nat} {cs : List D} (h : cs[n]? = some (deskD (dtD [zzN.wk]))) :
    m_l_law_desk_right [.cell n, tupD w, .lst [.str "ok", tupD w, .str (deskW x (some w))], .str x] (deskC x n cs (some w)) = .ok (.bl true) (deskC x n cs (some w)) := by
  obtain ⟨hN, hg⟩ := rdT_ok hl q hk
  obtain ⟨etx, _, h60, _⟩ := rdT_some q
  have hg1 := okW_gap hk
  have hcr := crowd_eq hg1
  have f1 := fdivI_ii (i := max 900 ((w.d : Nat) : Int) + 899) (j := 900) (by decide) (by decide)
  have f2 := fdiv_big (i := max 900 ((w.d : Nat) : Int) + (w.e : Nat) + (w.g : Nat) - 1) hg1 h60
  have hmx : max2D [.int 900, .int ((w.d : Nat) : Int)] = some (.int (max 900 ((w.d : Nat) : Int))) := by
    unfold max2D
    simp only []
    congr 2
    split <;> omega
  have so : PyData.strOk (Str.ofString "ok") = true := by decide +kernel
  have st : PyData.strOk (Str.ofString "other") = true := by decide +kernel
  have t1 := told_eq hk "ok" so
  have t2 := told_eq hk "other" st
  have hch := cleanL_hos w.hs
  unfold deskW deskC
  simp only [hk, if_true, hn, false_or]
  unfold tupD at t1 t2 ⊢
  generalize hosD w.hs = hsD at t1 t2 hch ⊢
  have x1 : ∀ a b c d e f : D, ixD (.tup [a, b, c, d, e, f]) (.int 1) = some b := fun _ _ _ _ _ _ => rfl
  have x3 : ∀ a b c d e f : D, ixD (.tup [a, b, c, d, e, f]) (.int 3) = some d := fun _ _ _ _ _ _ => rfl
  have x4 : ∀ a b c d e f : D, ixD (.tup [a, b, c, d, e, f]) (.int 4) = some e := fun _ _ _ _ _ _ => rfl
  obtain ⟨me, hme⟩ : ∃ me, me = max2D := ⟨_, rfl⟩
  rw [← hme] at hmx
  by_cases hc : 80 < crowdI w
  · simp only [hc, if_true]
    rw [hcr] at hc
    unfold m_l_law_desk_right b_l_law_desk_right
    rw [← hme]
    simp [runF, mSeq, mIf, mRet, mSkip, mVar, mC, mOp, mIsi, mNotV, mAndV, mOrV, mTest, mOr, mAnd, mNot, mCall0, lend_clean, back0, resD_clean, clean_non, clean_bl, clean_int, clean_str, clean_lst, clean_tup, clean_dct, clean_obj, cleanL_nil, cleanL_cons, mCons, mNil, ML.R.bind, ML.R.thenS, setS, lift2, cont_clean, cont_cell, cont_scr, cont_exn, contL, mCB, isSlot_clean, isSlot_cell, isSlot_exn, isSlot_slot, mAsg, gTp, gLs, gsCons, gsNil, gNm, mAug, tyD, kb_ii, kb_ib, kb_bi, kb_bb, kb_si, kb_ss, kb_tt, kb_ll, kb_tl, kb_sl, kb_dl, kb_il, kb_bl, mChain, mChain3, mSet, mSetOw, mRetN, mRaise, mDisp, noSlots, mDrop, mIter, mMeth, ofTy, mFor, forL, mPutF, mFld, putP, lookN, putN, flatB, flatD, max2D, min2D, mPart, mNoPart, mSl, orF, orC, gtD, ltD, leD, leI, geD, subI, addD_ii, modI, isN, isntN, mIfE, mNeg, mBreak, mCont, orE, boxed, ofStr_eq, mMake0, madeR, mOwn, methR, methC, backC, mCell, mSetKey, mSetIx, setL, mAugIx, mCall, mMake, madeC, mLc, mYes, wipeS, backS, backE, mMaxDf, intsD, mIsK, mFrz, frzS, size_le, size_lt, cleanL_append, mMut, appendU, cont_slotE, List.any, List.all, hch, x1, x3, x4, hmx, f1, f2, hc, t2]
  · simp only [hc, if_false]
    have hp := two_pre hk hg h60 hn
    rw [hcr] at hc
    have g7 : (cs.set n (deskD (dtD ([zzN.wk] ++ [w.wk]))))[n]? = some (deskD (dtD ([zzN.wk] ++ [w.wk]))) := List.getElem?_set_self (List.getElem?_eq_some_iff.mp h).1
    have hs := p_say_show (ws := [zzN, w]) (fun v hv => by
      rcases List.mem_cons.mp hv with rfl | h
      · exact zz_nwok
      · rw [List.mem_singleton] at h; rw [h]; exact hN) (by simp) g7
    rw [show_two, etx] at hs
    have l16 : (Str.ofString "zz 900 1 900 0; ").length = 16 := by decide +kernel
    have hadd := addD_ss (a := "zz 900 1 900 0; ") (b := x) (by have := sizeLine_ge; omega)
    unfold deskD at g7 hs ⊢
    generalize (cs.set n (.obj 8 ["duty"] [dtD ([zzN.wk] ++ [w.wk])])) = cs2 at g7 hs ⊢
    unfold m_l_law_desk_right b_l_law_desk_right
    rw [← hme]
    simp [runF, mSeq, mIf, mRet, mSkip, mVar, mC, mOp, mIsi, mNotV, mAndV, mOrV, mTest, mOr, mAnd, mNot, mCall0, lend_clean, back0, resD_clean, clean_non, clean_bl, clean_int, clean_str, clean_lst, clean_tup, clean_dct, clean_obj, cleanL_nil, cleanL_cons, mCons, mNil, ML.R.bind, ML.R.thenS, setS, lift2, cont_clean, cont_cell, cont_scr, cont_exn, contL, mCB, isSlot_clean, isSlot_cell, isSlot_exn, isSlot_slot, mAsg, gTp, gLs, gsCons, gsNil, gNm, mAug, tyD, kb_ii, kb_ib, kb_bi, kb_bb, kb_si, kb_ss, kb_tt, kb_ll, kb_tl, kb_sl, kb_dl, kb_il, kb_bl, mChain, mChain3, mSet, mSetOw, mRetN, mRaise, mDisp, noSlots, mDrop, mIter, mMeth, ofTy, mFor, forL, mPutF, mFld, putP, lookN, putN, flatB, flatD, max2D, min2D, mPart, mNoPart, mSl, orF, orC, gtD, ltD, leD, leI, geD, subI, addD_ii, modI, isN, isntN, mIfE, mNeg, mBreak, mCont, orE, boxed, ofStr_eq, mMake0, madeR, mOwn, methR, methC, backC, mCell, mSetKey, mSetIx, setL, mAugIx, mCall, mMake, madeC, mLc, mYes, wipeS, backS, backE, mMaxDf, intsD, mIsK, mFrz, frzS, size_le, size_lt, cleanL_append, mMut, appendU, cont_slotE, List.any, List.all, hch, x1, x3, x4, hmx, f1, f2, hc, t1, hs, g7, hadd, eq_ss]
end K85
end
section
set_option Elab.async false
set_option linter.all false
set_option maxRecDepth 100000
set_option autoImplicit false
set_option maxHeartbeats 4000000
/-! K85xb: texts drawn. -/
namespace K85
open PySem ML
theorem Well.mono {k k' n : Nat} {cs : List D} (h : Well k n cs) (hk : k ≤ k') : Well k' n cs := by
  obtain ⟨a, b, c, h1, h2, h3, h4, h5⟩ := h
  exact ⟨a, b, c, h1, h2, h3, h4, by omega⟩
def nmsA : List Str := ["a", "press", "abcdefgh", "wash"]
def nmsB : List Str := ["ink", "b", "ovenoven", "in"]
structure Gen (w : NW) : Prop where
  nm : w.nm ∈ nmsA
  g : w.g = 60
  l : w.l = 30
  d : w.d = 50
  e : w.e < 12
  few : w.hs.length ≤ 6
  ho : ∀ (k : Nat) (o : NHo), w.hs[k]? = some o → o.1 ∈ nmsB ∧ o.2.1 = 4 * k ∧ 4 * k < o.2.2 ∧ o.2.2 ≤ 4 * k + 4
theorem nmsA_case {x : Str} (h : x ∈ nmsA) : x = ("a" : Str) ∨ x = ("press" : Str) ∨ x = ("abcdefgh" : Str) ∨ x = ("wash" : Str) := by simpa [nmsA] using h
theorem nmsB_case {x : Str} (h : x ∈ nmsB) : x = ("ink" : Str) ∨ x = ("b" : Str) ∨ x = ("ovenoven" : Str) ∨ x = ("in" : Str) := by simpa [nmsB] using h
theorem Gen.nwok {w : NW} (k : Gen w) : NWOk w := by
  have h1 := k.g
  have h2 := k.l
  have h3 := k.d
  have h4 := k.e
  refine ⟨?_, by omega, by omega, by omega, by omega, k.few, fun o ho => ?_, ?_⟩
  · rcases nmsA_case k.nm with h | h | h | h <;> rw [h] <;> decide +kernel
  · obtain ⟨i, hi, e⟩ := List.mem_iff_getElem.mp ho
    obtain ⟨g1, g2, g3, g4⟩ := k.ho i o (by rw [List.getElem?_eq_getElem hi, e])
    have := k.few
    refine ⟨?_, ?_, ?_, by omega, by omega⟩ <;> rcases nmsB_case g1 with h | h | h | h <;> rw [h] <;> decide +kernel
  · rcases nmsA_case k.nm with h | h | h | h <;> rw [h] <;> decide +kernel
theorem rdH_hoT {o : NHo} (h1 : 58 ∉ TL.tl o.1) (h2 : (TL.numL o.2.1).length ≤ 60) (h3 : (TL.numL o.2.2).length ≤ 60) : rdH (hoT o) = some o := by
  have e1 : Txt.partition (hoT o) ":" = (o.1, (":" : Str), numS o.2.1 ++ "-" ++ numS o.2.2) := by
    have e : hoT o = o.1 ++ ":" ++ (numS o.2.1 ++ "-" ++ numS o.2.2) := by unfold hoT hoS; simp only [app_assoc]
    rw [e]
    exact TL.partition_app (s := 58) (S := []) (by decide +kernel) h1
  have e2 : Txt.partition (numS o.2.1 ++ "-" ++ numS o.2.2) "-" = (numS o.2.1, ("-" : Str), numS o.2.2) :=
    TL.partition_app (s := 45) (S := []) (by decide +kernel) (by rw [show TL.tl (numS o.2.1) = TL.numL o.2.1 from tl_numS o.2.1]; exact TL.numL_free (by omega))
  unfold rdH
  rw [e1]
  simp only []
  rw [e2]
  simp only [num_numS h2, num_numS h3]
theorem Gen.read {w : NW} (k : Gen w) : rdT w.text = some w := by
  have hN := k.nwok
  unfold rdT
  rw [hN.split]
  unfold NW.parts rdW
  simp only [List.cons_append, List.nil_append, num_numS (len60 hN.g), num_numS (len60 hN.l), num_numS (len60 hN.d), num_numS (len60 hN.e)]
  have hr : ∀ os : List NHo, (∀ o ∈ os, o ∈ w.hs) → ((os.map hoT).all fun w => (rdH w).isSome) = true ∧ (os.map hoT).filterMap rdH = os := fun os => by
    induction os with
    | nil => intro _; exact ⟨rfl, rfl⟩
    | cons o os ih =>
      intro h
      obtain ⟨i1, i2⟩ := ih fun p hp => h p (List.mem_cons_of_mem _ hp)
      obtain ⟨_, g1, _, g2, g3⟩ := hN.ho o (h o List.mem_cons_self)
      have e := rdH_hoT g1 (len60 g2) (len60 g3)
      refine ⟨?_, ?_⟩
      · rw [List.map_cons, List.all_cons, e, i1]
        rfl
      · rw [List.map_cons, List.filterMap_cons, e, i2]
  obtain ⟨r1, r2⟩ := hr w.hs fun _ h => h
  rw [r1, if_pos rfl, r2]
theorem Gen.good {w : NW} (k : Gen w) : okW w = true := by
  unfold okW
  have h1 : isNm w.nm = true := by rcases nmsA_case k.nm with h | h | h | h <;> rw [h] <;> decide +kernel
  have h7 : holdsB w.l w.hs = true := by
    unfold holdsB
    rw [List.all_eq_true]
    intro i hi
    have hi := List.mem_range.mp hi
    have e : w.hs[i]? = some w.hs[i] := List.getElem?_eq_getElem hi
    obtain ⟨g1, g2, g3, g4⟩ := k.ho i _ e
    have hl := k.l
    have hf := k.few
    rw [Bool.and_eq_true]
    constructor
    · unfold hoAt
      rw [e]
      unfold hoB
      have : isNm w.hs[i].1 = true := by rcases nmsB_case g1 with h | h | h | h <;> rw [h] <;> decide +kernel
      simp only [this, Bool.true_and, Bool.and_eq_true, decide_eq_true_eq]
      omega
    · unfold fitAt
      rw [List.getElem?_map, e]
      simp only [Option.map_some]
      rw [List.all_eq_true]
      intro g hg
      obtain ⟨j, hj⟩ := List.mem_iff_getElem?.mp hg
      have hj1 : j < i := by
        have := (List.getElem?_eq_some_iff.mp hj).1
        simp at this
        omega
      rw [List.getElem?_take_of_lt hj1, List.getElem?_map, List.getElem?_eq_getElem (by omega)] at hj
      cases hj
      obtain ⟨f1, f2, f3, f4⟩ := k.ho j w.hs[j] (List.getElem?_eq_getElem (by omega))
      have : ((w.hs[j].2.2 : Nat) : Int) ≤ (w.hs[i].2.1 : Nat) := by omega
      unfold togB hoN
      simp [this]
  have h2 := k.g
  have h3 := k.l
  have h4 := k.d
  have h5 := k.few
  rw [h1, h7]
  simp only [h2, h3, h4, Bool.true_and, Bool.and_true, Bool.and_eq_true, decide_eq_true_eq]
  omega
theorem len_numS2 {n : Nat} (h : n < 100) : (numS n).length ≤ 2 := by rw [len_numS]; exact TL.numL_len (k := 2) (by decide) h
theorem Gen.len {w : NW} (k : Gen w) : w.text.length ≤ 300 := by
  have h1 := k.g
  have h2 := k.l
  have h3 := k.d
  have h4 := k.e
  have h5 := k.few
  have lsp : (Str.ofString " ").length = 1 := by decide +kernel
  have l2 : w.parts.length ≤ 11 := by unfold NW.parts; simp; omega
  have l1 := sum_le (xs := w.parts.map (·.length)) (m := 20) fun x hx => by
    obtain ⟨y, hy, rfl⟩ := List.mem_map.mp hx
    unfold NW.parts at hy
    rcases List.mem_append.mp hy with h | h
    · have g1 := len_numS2 (n := w.g) (by omega)
      have g2 := len_numS2 (n := w.l) (by omega)
      have g3 := len_numS2 (n := w.d) (by omega)
      have g4 := len_numS2 (n := w.e) (by omega)
      have g5 : w.nm.length ≤ 8 := by rcases nmsA_case k.nm with h | h | h | h <;> rw [h] <;> decide +kernel
      simp at h
      rcases h with rfl | rfl | rfl | rfl | rfl <;> omega
    · obtain ⟨o, ho, rfl⟩ := List.mem_map.mp h
      obtain ⟨i, hi, e⟩ := List.mem_iff_getElem.mp ho
      obtain ⟨f1, f2, f3, f4⟩ := k.ho i o (by rw [List.getElem?_eq_getElem hi, e])
      have g1 := len_numS2 (n := o.2.1) (by omega)
      have g2 := len_numS2 (n := o.2.2) (by omega)
      have g5 : o.1.length ≤ 8 := by rcases nmsB_case f1 with h | h | h | h <;> rw [h] <;> decide +kernel
      have lc : (Str.ofString ":").length = 1 := by decide +kernel
      have ld : (Str.ofString "-").length = 1 := by decide +kernel
      unfold hoT hoS
      simp only [len_app]
      omega
  rw [List.length_map] at l1
  have l4 : w.text.length ≤ (w.parts.map (·.length)).sum + w.parts.length * (Str.ofString " ").length := len_join " " w.parts
  rw [lsp] at l4
  omega
theorem joinL_mem (S : List Nat) : ∀ {ps : List (List Nat)} {c : Nat}, c ∈ TL.joinL S ps → c ∈ S ∨ ∃ p ∈ ps, c ∈ p
  | [], c, h => by cases h
  | [q], c, h => .inr ⟨q, by simp, h⟩
  | q :: r :: ps, c, h => by
    have e : TL.joinL S (q :: r :: ps) = q ++ (S ++ TL.joinL S (r :: ps)) := rfl
    rw [e] at h
    rcases List.mem_append.mp h with h | h
    · exact .inr ⟨q, by simp, h⟩
    · rcases List.mem_append.mp h with h | h
      · exact .inl h
      · rcases joinL_mem S h with h | ⟨p, hp, hc⟩
        · exact .inl h
        · exact .inr ⟨p, List.mem_cons_of_mem _ hp, hc⟩
theorem asc_numS (n : Nat) : Asc (numS n) := fun c hc => by
  have hc : c ∈ TL.numL n := by rw [← tl_numS]; exact hc
  have := TL.numL_digits n c hc
  omega
theorem asc_app {a b : Str} (ha : Asc a) (hb : Asc b) : Asc (a ++ b) := fun c hc => by
  rw [TL.tl_append] at hc
  rcases List.mem_append.mp hc with h | h
  · exact ha c h
  · exact hb c h
theorem asc_dec {a : Str} (h : (TL.tl a).all (fun c => decide (c < 1000)) = true) : Asc a := fun c hc => by
  have := List.all_eq_true.mp h c hc
  simpa using this
theorem Gen.asc {w : NW} (k : Gen w) : Asc w.text := fun c hc => by
  have e3 : TL.tl (Str.ofString " ") = [32] := by decide +kernel
  unfold NW.text at hc
  rw [TL.join_eq, TL.tl_join, e3] at hc
  rcases joinL_mem _ hc with h | ⟨p, hp, hc⟩
  · simp at h; omega
  · obtain ⟨y, hy, rfl⟩ := List.mem_map.mp hp
    refine (show Asc y from ?_) c hc
    unfold NW.parts at hy
    rcases List.mem_append.mp hy with h | h
    · simp at h
      rcases h with rfl | rfl | rfl | rfl | rfl
      · refine asc_dec ?_
        rcases nmsA_case k.nm with h | h | h | h <;> rw [h] <;> decide +kernel
      · exact asc_numS _
      · exact asc_numS _
      · exact asc_numS _
      · exact asc_numS _
    · obtain ⟨o, ho, rfl⟩ := List.mem_map.mp h
      obtain ⟨i, hi, e⟩ := List.mem_iff_getElem.mp ho
      obtain ⟨f1, _⟩ := k.ho i o (by rw [List.getElem?_eq_getElem hi, e])
      unfold hoT hoS
      refine asc_app (asc_app (asc_app (asc_app (asc_dec ?_) (asc_dec (by decide +kernel))) (asc_numS _)) (asc_dec (by decide +kernel))) (asc_numS _)
      rcases nmsB_case f1 with h | h | h | h <;> rw [h] <;> decide +kernel
/-! ### drawn -/
theorem text_turn {n k x : Nat} {cs : List D} {w : NW} {cell : D} (W : Well k n (cs.set n cell)) (hk : k + 2 ≤ 100000) (hx : w.hs.length = x) (hx6 : x ≤ 6) (a3 : Sl) :
    ∃ h cell' b3, b_l_law_text_1 ⟨[.fz (.cell n), .ow (.lst (w.parts.map D.str)), .fz (.int (x : Nat)), a3], cs.set n cell⟩ = .nx ⟨[.fz (.cell n), .ow (.lst (({ w with hs := w.hs ++ [h] } : NW).parts.map D.str)), .fz (.int (x : Nat)), b3], cs.set n cell'⟩ ∧ Well (k + 2) n (cs.set n cell') ∧
      h.1 ∈ nmsB ∧ h.2.1 = 4 * x ∧ 4 * x < h.2.2 ∧ h.2.2 ≤ 4 * x + 4 := by
  obtain ⟨r1, w1, a1, a2, W1, e1⟩ := draw (many := 4) W (by omega) (by omega) (by omega)
  rw [List.set_set] at e1 W1
  obtain ⟨r2, w2, b1, b2, W2, e2⟩ := draw (many := 4) W1 (by omega) (by omega) (by omega)
  rw [List.set_set] at e2 W2
  obtain ⟨y, rfl⟩ : ∃ y : Nat, r1 = (y : Int) := ⟨r1.toNat, by omega⟩
  obtain ⟨z, rfl⟩ : ∃ z : Nat, r2 = (z : Int) := ⟨r2.toNat, by omega⟩
  have hy : y < nmsB.length := by show y < 4; omega
  have hix := ixL (ds := [D.str "ink", .str "b", .str "ovenoven", .str "in"]) (k := y) (d := .str nmsB[y]) (by
    have e : ([D.str "ink", .str "b", .str "ovenoven", .str "in"] : List D) = nmsB.map D.str := rfl
    rw [e, List.getElem?_map, List.getElem?_eq_getElem hy]
    rfl)
  have hmem := List.getElem_mem hy
  generalize nmsB[y] = t at hix hmem
  obtain ⟨p, hp⟩ : ∃ p : Nat, p = 4 * x := ⟨_, rfl⟩
  obtain ⟨q, hq⟩ : ∃ q : Nat, q = 4 * x + 1 + z := ⟨_, rfl⟩
  have hm : mulD (.int 4) (.int (x : Nat)) = some (.int (p : Nat)) := by
    rw [mulD_ii (okMul_l (by omega) (by omega))]
    congr 2
    omega
  have hqi : ((p : Nat) : Int) + 1 + (z : Nat) = ((q : Nat) : Int) := by omega
  have s1 := strD_nat (n := p) (by omega)
  have s2 := strD_nat (n := q) (by omega)
  have l1 := len_numS2 (n := p) (by omega)
  have l2 := len_numS2 (n := q) (by omega)
  have lt : t.length ≤ 8 := by rcases nmsB_case hmem with h | h | h | h <;> rw [h] <;> decide +kernel
  have lc : (Str.ofString ":").length = 1 := by decide +kernel
  have ld : (Str.ofString "-").length = 1 := by decide +kernel
  have hz := sizeLine_ge
  have g1 := addD_ss (a := t) (b := ":") (by omega)
  have g2 := addD_ss (a := t ++ ":") (b := numS p) (by rw [len_app]; omega)
  have g3 := addD_ss (a := t ++ ":" ++ numS p) (b := "-") (by rw [len_app, len_app]; omega)
  have g4 := addD_ss (a := t ++ ":" ++ numS p ++ "-") (b := numS q) (by rw [len_app, len_app, len_app]; omega)
  have hfin : (({ w with hs := w.hs ++ [(t, p, q)] } : NW).parts.map D.str) = w.parts.map D.str ++ [.str (t ++ ":" ++ numS p ++ "-" ++ numS q)] := by
    unfold NW.parts hoT hoS
    simp
  have hlen : (w.parts.map D.str).length < PySem.sizeLine := by unfold NW.parts; simp; omega
  refine ⟨(t, p, q), w2, .fz (.str t), ?_, W2, hmem, by omega, by show 4 * x < q; omega, by show q ≤ 4 * x + 4; omega⟩
  rw [hfin]
  generalize w.parts.map D.str = ds at hlen ⊢
  obtain ⟨t1, ht1⟩ : ∃ t1, t1 = t ++ ":" := ⟨_, rfl⟩
  rw [← ht1] at g1 g2 g3 g4 ⊢
  obtain ⟨t2, ht2⟩ : ∃ t2, t2 = t1 ++ numS p := ⟨_, rfl⟩
  rw [← ht2] at g2 g3 g4 ⊢
  obtain ⟨t3, ht3⟩ : ∃ t3, t3 = t2 ++ "-" := ⟨_, rfl⟩
  rw [← ht3] at g3 g4 ⊢
  obtain ⟨t4, ht4⟩ : ∃ t4, t4 = t3 ++ numS q := ⟨_, rfl⟩
  rw [← ht4] at g4 ⊢
  unfold b_l_law_text_1
  simp [runF, mSeq, mIf, mRet, mSkip, mVar, mC, mOp, mIsi, mNotV, mAndV, mOrV, mTest, mOr, mAnd, mNot, mCall0, lend_clean, back0, resD_clean, clean_non, clean_bl, clean_int, clean_str, clean_lst, clean_tup, clean_dct, clean_obj, cleanL_nil, cleanL_cons, mCons, mNil, ML.R.bind, ML.R.thenS, setS, lift2, cont_clean, cont_cell, cont_scr, cont_exn, contL, mCB, isSlot_clean, isSlot_cell, isSlot_exn, isSlot_slot, mAsg, gTp, gLs, gsCons, gsNil, gNm, mAug, tyD, kb_ii, kb_ib, kb_bi, kb_bb, kb_si, kb_ss, kb_tt, kb_ll, kb_tl, kb_sl, kb_dl, kb_il, kb_bl, mChain, mChain3, mSet, mSetOw, mRetN, mRaise, mDisp, noSlots, mDrop, mIter, mMeth, ofTy, mFor, forL, mPutF, mFld, putP, lookN, putN, flatB, flatD, max2D, min2D, mPart, mNoPart, mSl, orF, orC, gtD, ltD, leD, leI, geD, subI, addD_ii, modI, isN, isntN, mIfE, mNeg, mBreak, mCont, orE, boxed, ofStr_eq, mMake0, madeR, mOwn, methR, methC, backC, mCell, mSetKey, mSetIx, setL, mAugIx, mCall, mMake, madeC, mLc, mYes, wipeS, backS, backE, mMaxDf, intsD, mIsK, mFrz, frzS, size_le, size_lt, cleanL_append, mMut, appendU, cont_slotE, List.any, List.all, e1, e2, hix, hm, s1, s2, g1, g2, g3, g4, hqi, hlen]
theorem p_text {n k : Nat} {cs : List D} (W : Well k n cs) (hk : k + 20 ≤ 100000) : ∃ w cell, m_l_law_text [.cell n] cs = .ok (.str w.text) (cs.set n cell) ∧ Well (k + 20) n (cs.set n cell) ∧ Gen w := by
  obtain ⟨r1, w1, a1, a2, W1, e1⟩ := draw (many := 4) W (by omega) (by omega) (by omega)
  obtain ⟨r2, w2, b1, b2, W2, e2⟩ := draw (many := 12) W1 (by omega) (by omega) (by omega)
  rw [List.set_set] at e2 W2
  obtain ⟨r3, w3, c1, c2, W3, e3⟩ := draw (many := 7) W2 (by omega) (by omega) (by omega)
  rw [List.set_set] at e3 W3
  obtain ⟨y, rfl⟩ : ∃ y : Nat, r1 = (y : Int) := ⟨r1.toNat, by omega⟩
  obtain ⟨z, rfl⟩ : ∃ z : Nat, r2 = (z : Int) := ⟨r2.toNat, by omega⟩
  obtain ⟨m, rfl⟩ : ∃ m : Nat, r3 = (m : Int) := ⟨r3.toNat, by omega⟩
  have hy : y < nmsA.length := by show y < 4; omega
  have hix := ixL (ds := [D.str "a", .str "press", .str "abcdefgh", .str "wash"]) (k := y) (d := .str nmsA[y]) (by
    have e : ([D.str "a", .str "press", .str "abcdefgh", .str "wash"] : List D) = nmsA.map D.str := rfl
    rw [e, List.getElem?_map, List.getElem?_eq_getElem hy]
    rfl)
  have hmem := List.getElem_mem hy
  generalize nmsA[y] = nm at hix hmem
  have s2 := strD_nat (n := z) (by omega)
  obtain ⟨w0, hw0⟩ : ∃ w0 : NW, w0 = ⟨nm, 60, 30, 50, z, []⟩ := ⟨_, rfl⟩
  have hp0 : w0.parts.map D.str = [.str nm, .str "60", .str "30", .str "50", .str (numS z)] := by
    have e1 : numS 60 = ("60" : Str) := by decide +kernel
    have e2 : numS 30 = ("30" : Str) := by decide +kernel
    have e3 : numS 50 = ("50" : Str) := by decide +kernel
    rw [hw0]
    unfold NW.parts
    simp [e1, e2, e3]
  obtain ⟨s', ef, hs, cell, b2', b3', rfl, W4, lh, hH⟩ := forL_inv1 (g := gNm 2) (b := b_l_law_text_1) (fun k : Nat => D.int (k : Nat)) (fun l s => ∃ hs cell b2 b3, s = ⟨[.fz (.cell n), .ow (.lst (({ w0 with hs := hs } : NW).parts.map D.str)), b2, b3], cs.set n cell⟩ ∧ Well (k + 3 + 2 * l.length) n (cs.set n cell) ∧ hs.length = l.length ∧
      ∀ (k : Nat) (o : NHo), hs[k]? = some o → o.1 ∈ nmsB ∧ o.2.1 = 4 * k ∧ 4 * k < o.2.2 ∧ o.2.2 ≤ 4 * k + 4) (List.range m) ⟨[.fz (.cell n), .ow (.lst (w0.parts.map D.str)), .no, .no], cs.set n w3⟩
    ⟨[], w3, .no, .no, by rw [show ({ w0 with hs := [] } : NW) = w0 by rw [hw0]], W3, rfl, fun k o h => by simp at h⟩ fun x l r s e ⟨hs, cell, b2, b3, es, W1, lh, hH⟩ => by
      subst es
      obtain ⟨e1, e2, _⟩ := range_split e
      obtain ⟨h, cell', c3, f1, f2, f3, f4, f5, f6⟩ := text_turn (w := { w0 with hs := hs }) (x := x) W1 (by omega) (by rw [e1]; exact lh) (by omega) b3
      refine ⟨_, rfl, _, .inl f1, hs ++ [h], cell', _, c3, rfl, ?_, by simp [lh], fun k o ho => ?_⟩
      · rw [List.length_append, List.length_singleton]
        exact f2.mono (by omega)
      · by_cases hk : k < hs.length
        · rw [List.getElem?_append_left hk] at ho
          exact hH k o ho
        · have hk2 : k = hs.length := by
            have := (List.getElem?_eq_some_iff.mp ho).1
            simp at this
            omega
          rw [hk2, List.getElem?_append_right (Nat.le_refl _), Nat.sub_self] at ho
          cases ho
          rw [hk2, lh, ← e1]
          exact ⟨f3, f4, f5, f6⟩
  rw [List.length_range] at W4 lh
  have hG : Gen { w0 with hs := hs } := by
    subst hw0
    exact ⟨hmem, rfl, rfl, rfl, by show z < 12; omega, by show hs.length ≤ 6; omega, hH⟩
  refine ⟨{ w0 with hs := hs }, cell, ?_, W4.mono (by omega), hG⟩
  have hN := hG.nwok
  generalize ({ w0 with hs := hs } : NW) = w at ef hG hN ⊢
  have hjn : joinD (.str " ") [.lst (w.parts.map D.str)] = some (.str w.text) := by
    simp only [joinD, strsD_map]
    have lsp : (Str.ofString " ").length = 1 := by decide +kernel
    have l2 : w.parts.length ≤ 11 := by unfold NW.parts; have := hN.few; simp; omega
    have l1 := sum_le (xs := w.parts.map (·.length)) (m := 1200) fun x hx => by
      obtain ⟨y, hy, rfl⟩ := List.mem_map.mp hx
      exact hN.len y hy
    rw [List.length_map] at l1
    have hz := sizeLine_ge
    rw [if_pos (by rw [lsp]; omega)]
    rfl
  have hcl := cleanL_strs w.parts
  rw [hp0] at ef
  generalize w.parts.map D.str = ds at ef hjn hcl
  have hr : ok62 (m : Int) := ok62_nat (by omega)
  unfold m_l_law_text b_l_law_text
  simp [runF, mSeq, mIf, mRet, mSkip, mVar, mC, mOp, mIsi, mNotV, mAndV, mOrV, mTest, mOr, mAnd, mNot, mCall0, lend_clean, back0, resD_clean, clean_non, clean_bl, clean_int, clean_str, clean_lst, clean_tup, clean_dct, clean_obj, cleanL_nil, cleanL_cons, mCons, mNil, ML.R.bind, ML.R.thenS, setS, lift2, cont_clean, cont_cell, cont_scr, cont_exn, contL, mCB, isSlot_clean, isSlot_cell, isSlot_exn, isSlot_slot, mAsg, gTp, gLs, gsCons, gsNil, gNm, mAug, tyD, kb_ii, kb_ib, kb_bi, kb_bb, kb_si, kb_ss, kb_tt, kb_ll, kb_tl, kb_sl, kb_dl, kb_il, kb_bl, mChain, mChain3, mSet, mSetOw, mRetN, mRaise, mDisp, noSlots, mDrop, mIter, mMeth, ofTy, mFor, forL, mPutF, mFld, putP, lookN, putN, flatB, flatD, max2D, min2D, mPart, mNoPart, mSl, orF, orC, gtD, ltD, leD, leI, geD, subI, addD_ii, modI, isN, isntN, mIfE, mNeg, mBreak, mCont, orE, boxed, ofStr_eq, mMake0, madeR, mOwn, methR, methC, backC, mCell, mSetKey, mSetIx, setL, mAugIx, mCall, mMake, madeC, mLc, mYes, wipeS, backS, backE, mMaxDf, intsD, mIsK, mFrz, frzS, size_le, size_lt, cleanL_append, mMut, appendU, cont_slotE, List.any, List.all, e1, e2, e3, hix, s2, mRange1, hr, rangeD_map, ef, hjn, hcl]
end K85
end
section
set_option Elab.async false
set_option linter.all false
set_option maxRecDepth 100000
set_option autoImplicit false
set_option maxHeartbeats 4000000
/-! K85xc: texts spoilt. -/
namespace K85
open PySem ML
theorem idx_in (x : Str) {y : Str} {c : Nat} (ey : y = ⟨#[c]⟩) : ∃ i : Nat, i ≤ x.length ∧ indexD (.str (x ++ y)) [.str y] = some (.int (i : Nat)) := by
  have hf := StrLaws.found_one (x ++ y) c
  have hm : c ∈ (x ++ y).cps.toList := by
    show c ∈ TL.tl (x ++ y)
    rw [TL.tl_append, ey]
    exact List.mem_append_right _ (by show c ∈ [c]; simp)
  rw [decide_eq_true hm] at hf
  subst ey
  have ho := StrLaws.occ_chain (x ++ ⟨#[c]⟩) ⟨#[c]⟩ 1
  cases q : Builtin.Str.occurrences (x ++ ⟨#[c]⟩) ⟨#[c]⟩ 0 (x ++ ⟨#[c]⟩).length 1 with
  | nil => rw [q] at hf; cases hf
  | cons i r =>
    rw [q] at ho
    obtain ⟨f, ho⟩ := ho
    refine ⟨i, ?_, ?_⟩
    · have h1 : i + (⟨#[c]⟩ : Str).length ≤ (x ++ ⟨#[c]⟩ : Str).length := ho.2.1.1
      rw [len_app, show (⟨#[c]⟩ : Str).length = 1 from rfl] at h1
      omega
    · simp only [indexD, q]
def signsL : List Nat := TL.tl (" !\"#$&'()*+,-./0123456789:;<=>?@ABCDEFGHIJKLMNOPQRSTUVWXYZ[\\]^_`" ++ "abcdefghijklmnopqrstuvwxyz{|}~\t\n" : Str)
theorem p_sign {r : Nat} (h : r < 96) : ∃ c, c < 1000 ∧ m_l_law_sign [.int (r : Nat)] [] = .ok (.str ⟨#[c]⟩) [] := by
  have hl : signsL.length = 96 := by decide +kernel
  have ha : signsL.all (fun c => decide (c < 1000)) = true := by decide +kernel
  have hr : r < signsL.length := by omega
  obtain ⟨c, hc⟩ : ∃ c, signsL[r]? = some c := ⟨_, List.getElem?_eq_getElem hr⟩
  have hc1 : c < 1000 := by
    have := List.all_eq_true.mp ha c (List.mem_of_getElem? hc)
    simpa using this
  refine ⟨c, hc1, ?_⟩
  have hz := sizeLine_ge
  obtain ⟨a, hA⟩ : ∃ a : Str, a = " !\"#$&'()*+,-./0123456789:;<=>?@ABCDEFGHIJKLMNOPQRSTUVWXYZ[\\]^_`" := ⟨_, rfl⟩
  obtain ⟨b, hB⟩ : ∃ b : Str, b = "abcdefghijklmnopqrstuvwxyz{|}~\t\n" := ⟨_, rfl⟩
  have e0 : signsL = TL.tl (a ++ b) := by rw [hA, hB]; rfl
  have hlen : (a ++ b).length = 96 := by rw [TL.len_tl, ← e0]; exact hl
  rw [len_app] at hlen
  have hadd := addD_ss (a := a) (b := b) (by omega)
  have hix : ixD (.str (a ++ b)) (.int (r : Nat)) = some (.str ⟨#[c]⟩) := by
    have h1 : L2.atI (a ++ b).cps.toList ((r : Nat) : Int) = some c := by
      have e : (a ++ b).cps.toList = signsL := e0.symm
      rw [e]
      unfold L2.atI L2.ixN
      rw [if_pos (by omega), if_pos (by omega)]
      simpa using hc
    unfold ixD orF ixSq
    simp only [h1, if_pos (show (a ++ b).length ≤ PySem.sizeLine by rw [len_app]; omega)]
  have hmod : ((r : Nat) : Int) % 96 = (r : Nat) := Int.emod_eq_of_lt (by omega) (by omega)
  generalize a ++ b = ab at hadd hix
  unfold m_l_law_sign b_l_law_sign
  rw [← hA, ← hB]
  simp [runF, mSeq, mIf, mRet, mSkip, mVar, mC, mOp, mIsi, mNotV, mAndV, mOrV, mTest, mOr, mAnd, mNot, mCall0, lend_clean, back0, resD_clean, clean_non, clean_bl, clean_int, clean_str, clean_lst, clean_tup, clean_dct, clean_obj, cleanL_nil, cleanL_cons, mCons, mNil, ML.R.bind, ML.R.thenS, setS, lift2, cont_clean, cont_cell, cont_scr, cont_exn, contL, mCB, isSlot_clean, isSlot_cell, isSlot_exn, isSlot_slot, mAsg, gTp, gLs, gsCons, gsNil, gNm, mAug, tyD, kb_ii, kb_ib, kb_bi, kb_bb, kb_si, kb_ss, kb_tt, kb_ll, kb_tl, kb_sl, kb_dl, kb_il, kb_bl, mChain, mChain3, mSet, mSetOw, mRetN, mRaise, mDisp, noSlots, mDrop, mIter, mMeth, ofTy, mFor, forL, mPutF, mFld, putP, lookN, putN, flatB, flatD, max2D, min2D, mPart, mNoPart, mSl, orF, orC, gtD, ltD, leD, leI, geD, subI, addD_ii, modI, isN, isntN, mIfE, mNeg, mBreak, mCont, orE, boxed, ofStr_eq, mMake0, madeR, mOwn, methR, methC, backC, mCell, mSetKey, mSetIx, setL, mAugIx, mCall, mMake, madeC, mLc, mYes, wipeS, backS, backE, mMaxDf, intsD, mIsK, mFrz, frzS, size_le, size_lt, cleanL_append, mMut, appendU, cont_slotE, List.any, List.all, hadd, hmod, hix]
theorem sIx_none (n d : Nat) : HT.sIx n d none = d := rfl
theorem cut_to (x : Str) (p : Nat) (hp : p ≤ x.length) : (L2.cutS x none (some (p : Int))).length = p ∧ ∀ c ∈ TL.tl (L2.cutS x none (some (p : Int))), c ∈ TL.tl x := by
  have e : TL.tl (L2.cutS x none (some (p : Int))) = (TL.tl x).take p := by
    show ((x.cps.toList.drop (HT.sIx x.length 0 none)).take (HT.sIx x.length x.length (some (p : Int)) - HT.sIx x.length 0 none)) = _
    rw [HT.sIx_nat, sIx_none, List.drop_zero, Nat.sub_zero, Nat.min_eq_left hp]
  refine ⟨?_, fun c hc => ?_⟩
  · rw [TL.len_tl, e, List.length_take, ← TL.len_tl]
    omega
  · rw [e] at hc
    exact List.mem_of_mem_take hc
theorem cut_from (x : Str) (p : Nat) : (L2.cutS x (some (p : Int)) none).length = x.length - p ∧ ∀ c ∈ TL.tl (L2.cutS x (some (p : Int)) none), c ∈ TL.tl x := by
  have e : TL.tl (L2.cutS x (some (p : Int)) none) = (TL.tl x).drop p := by
    show ((x.cps.toList.drop (HT.sIx x.length 0 (some (p : Int)))).take (HT.sIx x.length x.length none - HT.sIx x.length 0 (some (p : Int)))) = _
    rw [HT.sIx_nat, sIx_none]
    have hl : x.cps.toList.length = x.length := by rw [TL.len_tl]
    by_cases h : p ≤ x.length
    · rw [Nat.min_eq_left h, List.take_of_length_le (by rw [List.length_drop, hl]; exact Nat.le_refl _)]
    · rw [Nat.min_eq_right (by omega), List.drop_eq_nil_of_le (by omega), List.take_nil]
      exact (List.drop_eq_nil_of_le (by show x.cps.toList.length ≤ p; omega)).symm
  refine ⟨?_, fun c hc => ?_⟩
  · rw [TL.len_tl, e, List.length_drop, ← TL.len_tl]
  · rw [e] at hc
    exact List.mem_of_mem_drop hc
def five : List Str := ["\t", "\n", " ", "A", "1"]
theorem spoil_turn {n k j : Nat} {cs : List D} {x : Str} {cell : D} (W : Well k n (cs.set n cell)) (hk : k + 10 ≤ 100000) (hl : x.length ≤ 950) (ha : Asc x) (a3 a4 a5 a6 a7 a8 a9 : Sl) :
    ∃ x' cell' b3 b4 b5 b6 b7 b8 b9, b_l_law_spoilt_1 ⟨[.fz (.cell n), .fz (.str x), .fz (.int (j : Nat)), a3, a4, a5, a6, a7, a8, a9], cs.set n cell⟩ = .nx ⟨[.fz (.cell n), .fz (.str x'), .fz (.int (j : Nat)), b3, b4, b5, b6, b7, b8, b9], cs.set n cell'⟩ ∧ Well (k + 10) n (cs.set n cell') ∧ x'.length ≤ x.length + 1 ∧ Asc x' := by
  have hz := sizeLine_ge
  have l1 : (Str.ofString " ").length = 1 := by decide +kernel
  have l2 : (Str.ofString ":").length = 1 := by decide +kernel
  obtain ⟨i, hi, ei⟩ := idx_in x (y := " ") (c := 32) (by decide +kernel)
  obtain ⟨i2, hi2, ei2⟩ := idx_in x (y := ":") (c := 58) (by decide +kernel)
  have g1 := addD_ss (a := x) (b := " ") (by omega)
  have g2 := addD_ss (a := x) (b := ":") (by omega)
  obtain ⟨r1, w1, p1, q1, W1, e1⟩ := draw (many := (i : Int) + 1) W (by omega) (by omega) (by omega)
  rw [List.set_set] at e1 W1
  obtain ⟨r2, w2, p2, q2, W2, e2⟩ := draw (many := (x.length : Int) + 1) W1 (by omega) (by omega) (by omega)
  rw [List.set_set] at e2 W2
  obtain ⟨r3, w3, p3, q3, W3, e3⟩ := draw (many := 7) W2 (by omega) (by omega) (by omega)
  rw [List.set_set] at e3 W3
  obtain ⟨r4, w4, p4, q4, W4, e4⟩ := draw (many := 96) W3 (by omega) (by omega) (by omega)
  rw [List.set_set] at e4 W4
  obtain ⟨r5, w5, p5, q5, W5, e5⟩ := draw (many := 2) W4 (by omega) (by omega) (by omega)
  rw [List.set_set] at e5 W5
  obtain ⟨y1, rfl⟩ : ∃ y : Nat, r1 = (y : Int) := ⟨r1.toNat, by omega⟩
  obtain ⟨y2, rfl⟩ : ∃ y : Nat, r2 = (y : Int) := ⟨r2.toNat, by omega⟩
  obtain ⟨y3, rfl⟩ : ∃ y : Nat, r3 = (y : Int) := ⟨r3.toNat, by omega⟩
  obtain ⟨y4, rfl⟩ : ∃ y : Nat, r4 = (y : Int) := ⟨r4.toNat, by omega⟩
  obtain ⟨c, hc, es⟩ := p_sign (r := y4) (by omega)
  -- the places to draw from
  have hmx : max2D [.int 0, .int ((i2 : Nat) - 3)] = some (.int ((i2 - 3 : Nat) : Nat)) := by
    unfold max2D
    simp only []
    congr 2
    split <;> omega
  obtain ⟨vs, hvs⟩ : ∃ vs : List Nat, vs = [0, i, y1, i2, i2 - 3, x.length, y2] := ⟨_, rfl⟩
  have hv3 : y3 < vs.length := by rw [hvs]; show y3 < 7; omega
  obtain ⟨m3, hm3⟩ : ∃ m : Nat, m = i2 - 3 := ⟨_, rfl⟩
  rw [← hm3] at hmx
  have hvd : (vs.map fun v => D.int (v : Nat)) = [.int 0, .int (i : Nat), .int (y1 : Nat), .int (i2 : Nat), .int (m3 : Nat), .int (x.length : Nat)] ++ [.int (y2 : Nat)] := by rw [hvs, hm3]; rfl
  have hix := ixL (ds := vs.map fun v => D.int (v : Nat)) (k := y3) (d := .int (vs[y3] : Nat)) (by rw [List.getElem?_map, List.getElem?_eq_getElem hv3]; rfl)
  generalize vs[y3] = v at hix
  rw [hvd] at hix
  obtain ⟨p, hp⟩ : ∃ p : Nat, p = min x.length v := ⟨_, rfl⟩
  have hmn : min2D [.int (x.length : Nat), .int (v : Nat)] = some (.int (p : Nat)) := by
    unfold min2D
    simp only []
    congr 2
    split <;> omega
  have hpl : p ≤ x.length := by omega
  simp only [List.cons_append, List.nil_append] at hix
  have hlenD : lenD [.str x] = some (.int (x.length : Nat)) := by
    simp only [lenD]
    rw [if_pos (by omega)]
  obtain ⟨mx, hmxe⟩ : ∃ f, f = max2D := ⟨_, rfl⟩
  obtain ⟨mn, hmne⟩ : ∃ f, f = min2D := ⟨_, rfl⟩
  rw [← hmxe] at hmx
  rw [← hmne] at hmn
  have hslen : (6 : Nat) < PySem.sizeLine := by omega
  -- the sign, the rest
  have tail : ∀ (sg : Str) (cell5 : D) (k5 : Nat), sg.length ≤ 1 → Asc sg → Well k5 n (cs.set n cell5) → k5 + 1 ≤ 100000 → ∃ way cell6 x', 0 ≤ way ∧ m_l_law_draw [.cell n, .int 3] (cs.set n cell5) = .ok (.int way) (cs.set n cell6) ∧ Well (k5 + 1) n (cs.set n cell6) ∧ x'.length ≤ x.length + 1 ∧ Asc x' ∧
      ∃ rest t1 t2 t3, slS (.str x) (some ((p : Nat) + (if 0 < way then 1 else 0 : Int))) none = some (.str rest) ∧ slS (.str x) none (some ((p : Nat) : Int)) = some (.str t1) ∧ mulS (.str sg) (.int (if way < 2 then 1 else 0 : Int)) = some (.str t2) ∧ addD (.str t1) (.str t2) = some (.str t3) ∧ addD (.str t3) (.str rest) = some (.str x') := by
    intro sg cell5 k5 hsl hsa W5 hk5
    obtain ⟨r6, w6, p6, q6, W6, e6⟩ := draw (many := 3) W5 (by omega) (by omega) (by omega)
    rw [List.set_set] at e6 W6
    obtain ⟨b, hb⟩ : ∃ b : Nat, b = if 0 < r6 then 1 else 0 := ⟨_, rfl⟩
    have hb1 : ((p : Nat) + (if 0 < r6 then 1 else 0 : Int)) = ((p + b : Nat) : Int) := by
      rw [hb]
      split <;> simp
    obtain ⟨ct1, ct2⟩ := cut_to x p hpl
    obtain ⟨cf1, cf2⟩ := cut_from x (p + b)
    obtain ⟨t2, ht2, hl2, ha2⟩ : ∃ t2, mulS (.str sg) (.int (if r6 < 2 then 1 else 0 : Int)) = some (.str t2) ∧ t2.length ≤ 1 ∧ Asc t2 := by
      by_cases h : r6 < 2
      · refine ⟨sg, ?_, hsl, hsa⟩
        simp [mulS, h]
      · refine ⟨⟨#[]⟩, ?_, by show 0 ≤ 1; omega, fun c hc => by cases hc⟩
        simp [mulS, h]
    refine ⟨r6, w6, L2.cutS x none (some ((p : Nat) : Int)) ++ t2 ++ L2.cutS x (some ((p + b : Nat) : Int)) none, p6, e6, W6, ?_, ?_, L2.cutS x (some ((p + b : Nat) : Int)) none, L2.cutS x none (some ((p : Nat) : Int)), t2, L2.cutS x none (some ((p : Nat) : Int)) ++ t2, ?_, ?_, ht2, ?_, ?_⟩
    · rw [len_app, len_app]
      omega
    · exact asc_app (asc_app (fun c hc => ha c (ct2 c hc)) ha2) fun c hc => ha c (cf2 c hc)
    · rw [hb1]
      simp only [slS]
      rw [if_pos (by omega)]
    · simp only [slS]
      rw [if_pos (by omega)]
    · exact addD_ss (by omega)
    · exact addD_ss (by rw [len_app]; omega)
  by_cases h5 : r5 = 0
  · obtain ⟨r7, w7, p7, q7, W7, e7⟩ := draw (many := 5) W5 (by omega) (by omega) (by omega)
    rw [List.set_set] at e7 W7
    obtain ⟨y7, rfl⟩ : ∃ y : Nat, r7 = (y : Int) := ⟨r7.toNat, by omega⟩
    have hy : y7 < five.length := by show y7 < 5; omega
    have hix7 := ixL (ds := [D.str "\t", .str "\n", .str " ", .str "A", .str "1"]) (k := y7) (d := .str five[y7]) (by
      have e : ([D.str "\t", .str "\n", .str " ", .str "A", .str "1"] : List D) = five.map D.str := rfl
      rw [e, List.getElem?_map, List.getElem?_eq_getElem hy]
      rfl)
    have hm : five[y7] ∈ five := List.getElem_mem hy
    generalize five[y7] = sg at hix7 hm
    have hsg : sg.length ≤ 1 ∧ Asc sg := by
      have hm : sg = ("\t" : Str) ∨ sg = ("\n" : Str) ∨ sg = (" " : Str) ∨ sg = ("A" : Str) ∨ sg = ("1" : Str) := by simpa [five] using hm
      rcases hm with h | h | h | h | h <;> rw [h] <;> exact ⟨by decide +kernel, asc_dec (by decide +kernel)⟩
    obtain ⟨way, w8, x', pw, e8, W8, hxl, hxa, rest, t1, t2, t3, k1, k2, k3, k4, k5'⟩ := tail sg w7 _ hsg.1 hsg.2 W7 (by omega)
    refine ⟨x', w8, .fz (.int (i : Nat)), .fz (.int (i2 : Nat)), .ow (.lst [.int 0, .int (i : Nat), .int (y1 : Nat), .int (i2 : Nat), .int (m3 : Nat), .int (x.length : Nat), .int (y2 : Nat)]), .fz (.int (p : Nat)), .fz (.str sg), .fz (.int way), .fz (.str rest), ?_, W8.mono (by omega), hxl, hxa⟩
    subst h5
    unfold b_l_law_spoilt_1
    rw [← hmxe, ← hmne]
    by_cases v1 : 0 < way <;> by_cases v2 : way < 2 <;> simp only [v1, v2, if_true, if_false, Int.add_zero] at k1 k3 <;> simp [runF, mSeq, mIf, mRet, mSkip, mVar, mC, mOp, mIsi, mNotV, mAndV, mOrV, mTest, mOr, mAnd, mNot, mCall0, lend_clean, back0, resD_clean, clean_non, clean_bl, clean_int, clean_str, clean_lst, clean_tup, clean_dct, clean_obj, cleanL_nil, cleanL_cons, mCons, mNil, ML.R.bind, ML.R.thenS, setS, lift2, cont_clean, cont_cell, cont_scr, cont_exn, contL, mCB, isSlot_clean, isSlot_cell, isSlot_exn, isSlot_slot, mAsg, gTp, gLs, gsCons, gsNil, gNm, mAug, tyD, kb_ii, kb_ib, kb_bi, kb_bb, kb_si, kb_ss, kb_tt, kb_ll, kb_tl, kb_sl, kb_dl, kb_il, kb_bl, mChain, mChain3, mSet, mSetOw, mRetN, mRaise, mDisp, noSlots, mDrop, mIter, mMeth, ofTy, mFor, forL, mPutF, mFld, putP, lookN, putN, flatB, flatD, max2D, min2D, mPart, mNoPart, mSl, orF, orC, gtD, ltD, leD, leI, geD, subI, addD_ii, modI, isN, isntN, mIfE, mNeg, mBreak, mCont, orE, boxed, ofStr_eq, mMake0, madeR, mOwn, methR, methC, backC, mCell, mSetKey, mSetIx, setL, mAugIx, mCall, mMake, madeC, mLc, mYes, wipeS, backS, backE, mMaxDf, intsD, mIsK, mFrz, frzS, size_le, size_lt, cleanL_append, mMut, appendU, cont_slotE, List.any, List.all, g1, g2, ei, ei2, e1, e2, e3, e4, e5, e7, e8, hmx, hmn, hlenD, hix, hix7, es, k1, k2, k3, k4, k5', eq_ii, intD, v1, v2, hslen]
  · obtain ⟨way, w8, x', pw, e8, W8, hxl, hxa, rest, t1, t2, t3, k1, k2, k3, k4, k5'⟩ := tail ⟨#[c]⟩ w5 _ (by show 1 ≤ 1; omega) (fun c' hc' => by
      have : c' ∈ [c] := hc'
      rw [List.mem_singleton] at this
      omega) W5 (by omega)
    refine ⟨x', w8, .fz (.int (i : Nat)), .fz (.int (i2 : Nat)), .ow (.lst [.int 0, .int (i : Nat), .int (y1 : Nat), .int (i2 : Nat), .int (m3 : Nat), .int (x.length : Nat), .int (y2 : Nat)]), .fz (.int (p : Nat)), .fz (.str ⟨#[c]⟩), .fz (.int way), .fz (.str rest), ?_, W8.mono (by omega), hxl, hxa⟩
    unfold b_l_law_spoilt_1
    rw [← hmxe, ← hmne]
    by_cases v1 : 0 < way <;> by_cases v2 : way < 2 <;> simp only [v1, v2, if_true, if_false, Int.add_zero] at k1 k3 <;> simp [runF, mSeq, mIf, mRet, mSkip, mVar, mC, mOp, mIsi, mNotV, mAndV, mOrV, mTest, mOr, mAnd, mNot, mCall0, lend_clean, back0, resD_clean, clean_non, clean_bl, clean_int, clean_str, clean_lst, clean_tup, clean_dct, clean_obj, cleanL_nil, cleanL_cons, mCons, mNil, ML.R.bind, ML.R.thenS, setS, lift2, cont_clean, cont_cell, cont_scr, cont_exn, contL, mCB, isSlot_clean, isSlot_cell, isSlot_exn, isSlot_slot, mAsg, gTp, gLs, gsCons, gsNil, gNm, mAug, tyD, kb_ii, kb_ib, kb_bi, kb_bb, kb_si, kb_ss, kb_tt, kb_ll, kb_tl, kb_sl, kb_dl, kb_il, kb_bl, mChain, mChain3, mSet, mSetOw, mRetN, mRaise, mDisp, noSlots, mDrop, mIter, mMeth, ofTy, mFor, forL, mPutF, mFld, putP, lookN, putN, flatB, flatD, max2D, min2D, mPart, mNoPart, mSl, orF, orC, gtD, ltD, leD, leI, geD, subI, addD_ii, modI, isN, isntN, mIfE, mNeg, mBreak, mCont, orE, boxed, ofStr_eq, mMake0, madeR, mOwn, methR, methC, backC, mCell, mSetKey, mSetIx, setL, mAugIx, mCall, mMake, madeC, mLc, mYes, wipeS, backS, backE, mMaxDf, intsD, mIsK, mFrz, frzS, size_le, size_lt, cleanL_append, mMut, appendU, cont_slotE, List.any, List.all, g1, g2, ei, ei2, e1, e2, e3, e4, e5, e8, h5, hmx, hmn, hlenD, hix, es, k1, k2, k3, k4, k5', eq_ii, intD, v1, v2, hslen]
end K85
end
section
set_option Elab.async false
set_option linter.all false
set_option maxRecDepth 100000
set_option autoImplicit false
set_option maxHeartbeats 4000000
/-! K85xd: the law. -/
namespace K85
open PySem ML
theorem p_spoilt {n k : Nat} {cs : List D} {x : Str} (W : Well k n cs) (hk : k + 40 ≤ 100000) (hl : x.length ≤ 900) (ha : Asc x) : ∃ odd cell, m_l_law_spoilt [.cell n, .str x] cs = .ok (.str odd) (cs.set n cell) ∧ Well (k + 40) n (cs.set n cell) ∧ odd.length ≤ x.length + 3 ∧ Asc odd := by
  obtain ⟨r1, w1, p1, q1, W1, e1⟩ := draw (many := 3) W (by omega) (by omega) (by omega)
  obtain ⟨m, hm⟩ : ∃ m : Nat, 1 + r1 = (m : Int) := ⟨(1 + r1).toNat, by omega⟩
  obtain ⟨s', ef, x', cell, b2, b3, b4, b5, b6, b7, b8, b9, rfl, W4, lx, ax⟩ := forL_inv1 (g := gNm 2) (b := b_l_law_spoilt_1) (fun k : Nat => D.int (k : Nat)) (fun l s => ∃ x' cell b2 b3 b4 b5 b6 b7 b8 b9, s = ⟨[.fz (.cell n), .fz (.str x'), b2, b3, b4, b5, b6, b7, b8, b9], cs.set n cell⟩ ∧ Well (k + 1 + 10 * l.length) n (cs.set n cell) ∧ x'.length ≤ x.length + l.length ∧ Asc x') (List.range m) ⟨[.fz (.cell n), .fz (.str x), .no, .no, .no, .no, .no, .no, .no, .no], cs.set n w1⟩
    ⟨x, w1, _, _, _, _, _, _, _, _, rfl, W1, by simp, ha⟩ fun j l r s e ⟨x', cell, b2, b3, b4, b5, b6, b7, b8, b9, es, W1, lx, ax⟩ => by
      subst es
      obtain ⟨e1, e2, _⟩ := range_split e
      obtain ⟨x2, cell', c3, c4, c5, c6, c7, c8, c9, f1, f2, f3, f4⟩ := spoil_turn (j := j) W1 (by omega) (by omega) ax b3 b4 b5 b6 b7 b8 b9
      refine ⟨_, rfl, _, .inl f1, x2, cell', _, c3, c4, c5, c6, c7, c8, c9, rfl, ?_, ?_, f4⟩
      · rw [List.length_append, List.length_singleton]
        exact f2.mono (by omega)
      · rw [List.length_append, List.length_singleton]
        omega
  rw [List.length_range] at W4 lx
  refine ⟨x', cell, ?_, W4.mono (by omega), by omega, ax⟩
  have hr : ok62 (m : Int) := ok62_nat (by omega)
  unfold m_l_law_spoilt b_l_law_spoilt
  simp [runF, mSeq, mIf, mRet, mSkip, mVar, mC, mOp, mIsi, mNotV, mAndV, mOrV, mTest, mOr, mAnd, mNot, mCall0, lend_clean, back0, resD_clean, clean_non, clean_bl, clean_int, clean_str, clean_lst, clean_tup, clean_dct, clean_obj, cleanL_nil, cleanL_cons, mCons, mNil, ML.R.bind, ML.R.thenS, setS, lift2, cont_clean, cont_cell, cont_scr, cont_exn, contL, mCB, isSlot_clean, isSlot_cell, isSlot_exn, isSlot_slot, mAsg, gTp, gLs, gsCons, gsNil, gNm, mAug, tyD, kb_ii, kb_ib, kb_bi, kb_bb, kb_si, kb_ss, kb_tt, kb_ll, kb_tl, kb_sl, kb_dl, kb_il, kb_bl, mChain, mChain3, mSet, mSetOw, mRetN, mRaise, mDisp, noSlots, mDrop, mIter, mMeth, ofTy, mFor, forL, mPutF, mFld, putP, lookN, putN, flatB, flatD, max2D, min2D, mPart, mNoPart, mSl, orF, orC, gtD, ltD, leD, leI, geD, subI, addD_ii, modI, isN, isntN, mIfE, mNeg, mBreak, mCont, orE, boxed, ofStr_eq, mMake0, madeR, mOwn, methR, methC, backC, mCell, mSetKey, mSetIx, setL, mAugIx, mCall, mMake, madeC, mLc, mYes, wipeS, backS, backE, mMaxDf, intsD, mIsK, mFrz, frzS, size_le, size_lt, cleanL_append, mMut, appendU, cont_slotE, List.any, List.all, e1, hm, mRange1, hr, rangeD_map, ef]
theorem read_nw {w : NW} (hN : NWOk w) : rdT w.text = some w := by
  unfold rdT
  rw [hN.split]
  unfold NW.parts rdW
  simp only [List.cons_append, List.nil_append, num_numS (len60 hN.g), num_numS (len60 hN.l), num_numS (len60 hN.d), num_numS (len60 hN.e)]
  have hr : ∀ os : List NHo, (∀ o ∈ os, o ∈ w.hs) → ((os.map hoT).all fun w => (rdH w).isSome) = true ∧ (os.map hoT).filterMap rdH = os := fun os => by
    induction os with
    | nil => intro _; exact ⟨rfl, rfl⟩
    | cons o os ih =>
      intro h
      obtain ⟨i1, i2⟩ := ih fun p hp => h p (List.mem_cons_of_mem _ hp)
      obtain ⟨_, g1, _, g2, g3⟩ := hN.ho o (h o List.mem_cons_self)
      have e := rdH_hoT g1 (len60 g2) (len60 g3)
      refine ⟨?_, ?_⟩
      · rw [List.map_cons, List.all_cons, e, i1]
        rfl
      · rw [List.map_cons, List.filterMap_cons, e, i2]
  obtain ⟨r1, r2⟩ := hr w.hs fun _ h => h
  rw [r1, if_pos rfl, r2]
theorem kb_ts : L2.kitB "tuple" "str" = some false := by kernel_rfl
theorem ne_tup {w : NW} (hk : okW w = true) : neD (tupD w) (tupD w) = some (.bl false) := by
  obtain ⟨p, h1, h2, h3⟩ := tup_py hk
  have hs : SeqAt.shaped p = true := by
    unfold SeqAt.shaped
    rw [h2, Bool.true_and]
    exact decide_eq_true (Nat.le_trans h3 (show 3 ≤ 64 by decide))
  have he : PyData.eqv p p = true := SeqAt.eqv_refl _ h2
  have e0 : scalD (tupD w) (tupD w) = none := rfl
  unfold neD eqB
  rw [e0]
  simp only [h1, hs, he, Bool.and_self, if_true]
  rfl
theorem Well.app {k n : Nat} {cs : List D} (h : Well k n cs) (d : D) : Well k n (cs ++ [d]) := by
  obtain ⟨a, b, c, h1, h2⟩ := h
  refine ⟨a, b, c, ?_, h2⟩
  rw [List.getElem?_append_left (List.getElem?_eq_some_iff.mp h1).1]
  exact h1
theorem Well.put {k n m : Nat} {cs : List D} (h : Well k n cs) (hm : m ≠ n) (d : D) : Well k n (cs.set m d) := by
  obtain ⟨a, b, c, h1, h2⟩ := h
  refine ⟨a, b, c, ?_, h2⟩
  rw [List.getElem?_set_ne hm]
  exact h1
theorem desk_made (cs : List D) : m_Desk_new [.cell cs.length] (cs ++ [.obj 8 [] []]) = .ok .non (cs ++ [deskD (dtD [])]) := by
  have h := p_desk_new (n := cs.length) (cs := cs ++ [.obj 8 [] []]) (by simp)
  rw [List.set_append_right _ _ (Nat.le_refl _), Nat.sub_self, List.set_cons_zero] at h
  exact h
theorem well_new (c : Int) (cs : List D) : ∃ cs', m_l_law_well [.int c] cs = .ok (.cell cs.length) cs' ∧ Well 0 cs.length cs' := by
  refine ⟨_, p_law_well c cs, ?_⟩
  have h1 := Int.emod_nonneg c (show (2147483647 : Int) ≠ 0 by decide)
  have h2 := Int.emod_lt_of_pos c (show (0 : Int) < 2147483647 by decide)
  exact ⟨_, c % 2147483647, 0, by simp; rfl, h1, h2, Int.le_refl _, by omega⟩
theorem turn_k {n k : Nat} {cs : List D} {x : Str} (sc c : D) (hsc : sc = sc) (W : Well k n cs) (hk : k + 40 ≤ 100000) (hl : x.length ≤ 900) (ha : Asc x) (j : Nat) (a5 a6 a7 a8 : Sl) :
    ∃ b5 b6 b7 b8 cs', b_law_2 ⟨[.fz sc, .fz c, .fz (.cell n), .fz (.str x), .fz (.int (j : Nat)), a5, a6, a7, a8], cs⟩ = .nx ⟨[.fz sc, .fz c, .fz (.cell n), .fz (.str x), .fz (.int (j : Nat)), b5, b6, b7, b8], cs'⟩ ∧ Well (k + 40) n cs' := by
  obtain ⟨odd, cell, q1, W1, lo, ao⟩ := p_spoilt W hk hl ha
  have hread := p_lawT (x := odd) (by omega) ao
  have hlen : n < (cs.set n cell).length := by
    obtain ⟨_, _, _, h, _⟩ := W1
    exact (List.getElem?_eq_some_iff.mp h).1
  generalize cs.set n cell = cs1 at q1 W1 hlen
  have q2 := desk_made cs1
  have g2 : (cs1 ++ [deskD (dtD [])])[cs1.length]? = some (deskD (dtD [])) := by simp
  have W2 := W1.app (deskD (dtD []))
  have hne : cs1.length ≠ n := by omega
  generalize cs1 ++ [deskD (dtD [])] = cs2 at q2 g2 W2
  have hzz : m_read_work [.str zzN.text] [] = .ok (wkD zzN.wk) [] := by
    rw [p_readT (by have := zz_nwok.tlen; rw [zz_text]; decide +kernel), read_nw zz_nwok]
    unfold readR
    simp only [zz_ok, if_true]
  have q3 := p_say_work g2 (by have := zz_nwok.tlen; omega) (p_with_work hzz zz_dt)
  rw [word_eq, zz_text] at q3
  have ez : ("work " ++ "zz 900 1 900 0" : Str) = "work zz 900 1 900 0" := by decide +kernel
  rw [ez, List.nil_append] at q3
  have g3 : (cs2.set cs1.length (deskD (dtD [zzN.wk])))[cs1.length]? = some (deskD (dtD [zzN.wk])) := List.getElem?_set_self (List.getElem?_eq_some_iff.mp g2).1
  have W3 := W2.put hne (deskD (dtD [zzN.wk]))
  generalize cs2.set cs1.length (deskD (dtD [zzN.wk])) = cs3 at q3 g3 W3
  have q4 := door0 (x := odd) (by omega) (.cell cs1.length) cs3
  have q5 := door1 (x := odd) (by omega) g3
  have g2' : ∃ y, cs2[cs1.length]? = some (.obj 8 ["duty"] [y]) := ⟨_, g2⟩
  obtain ⟨y2, g2'⟩ := g2'
  have flat : ∀ (t : Str), PyData.strOk t = true → lawD (rdT odd) = .str t → deskW odd (rdT odd) = t → deskC odd cs1.length cs3 (rdT odd) = cs3 →
      ∃ b5 b6 b7 b8 cs', b_law_2 ⟨[.fz sc, .fz c, .fz (.cell n), .fz (.str x), .fz (.int (j : Nat)), a5, a6, a7, a8], cs⟩ = .nx ⟨[.fz sc, .fz c, .fz (.cell n), .fz (.str x), .fz (.int (j : Nat)), b5, b6, b7, b8], cs'⟩ ∧ Well (k + 40) n cs' := by
    intro t ht h1 h2 h3
    rw [h1] at hread q4
    rw [h2, h3] at q5
    have hf := told_flat t ht
    have hs := p_say_show (ws := [zzN]) (fun v hv => by
      rw [List.mem_singleton] at hv; rw [hv]; exact zz_nwok) (by simp) g3
    rw [show_zz] at hs
    have g3' : ∃ y, cs3[cs1.length]? = some (.obj 8 ["duty"] [y]) := ⟨_, g3⟩
    obtain ⟨y3, g3'⟩ := g3'
    refine ⟨.fz (.str odd), .fz (.str t), .fz (.cell cs1.length), .fz (.lst [.str "ok", .str t, .str t]), cs3, ?_, W3⟩
    unfold b_law_2
    simp [runF, mSeq, mIf, mRet, mSkip, mVar, mC, mOp, mIsi, mNotV, mAndV, mOrV, mTest, mOr, mAnd, mNot, mCall0, lend_clean, back0, resD_clean, clean_non, clean_bl, clean_int, clean_str, clean_lst, clean_tup, clean_dct, clean_obj, cleanL_nil, cleanL_cons, mCons, mNil, ML.R.bind, ML.R.thenS, setS, lift2, cont_clean, cont_cell, cont_scr, cont_exn, contL, mCB, isSlot_clean, isSlot_cell, isSlot_exn, isSlot_slot, mAsg, gTp, gLs, gsCons, gsNil, gNm, mAug, tyD, kb_ii, kb_ib, kb_bi, kb_bb, kb_si, kb_ss, kb_tt, kb_ll, kb_tl, kb_sl, kb_dl, kb_il, kb_bl, mChain, mChain3, mSet, mSetOw, mRetN, mRaise, mDisp, noSlots, mDrop, mIter, mMeth, ofTy, mFor, forL, mPutF, mFld, putP, lookN, putN, flatB, flatD, max2D, min2D, mPart, mNoPart, mSl, orF, orC, gtD, ltD, leD, leI, geD, subI, addD_ii, modI, isN, isntN, mIfE, mNeg, mBreak, mCont, orE, boxed, ofStr_eq, mMake0, madeR, mOwn, methR, methC, backC, mCell, mSetKey, mSetIx, setL, mAugIx, mCall, mMake, madeC, mLc, mYes, wipeS, backS, backE, mMaxDf, intsD, mIsK, mFrz, frzS, size_le, size_lt, cleanL_append, mMut, appendU, cont_slotE, List.any, List.all, q1, hread, q2, q3, q4, q5, hf, hs, g2', g3', ne_ss]
  cases q : rdT odd with
  | none =>
    rw [q] at flat
    exact flat "text" (by decide +kernel) rfl rfl rfl
  | some w =>
    cases hk2 : okW w with
    | false =>
      rw [q] at flat
      refine flat "work" (by decide +kernel) ?_ ?_ ?_ <;> simp [lawD, deskW, deskC, hk2]
    | true =>
      clear flat
      rw [q] at hread q4 q5
      have e6 : lawD (some w) = tupD w := by simp [lawD, hk2]
      rw [e6] at hread q4
      have hch := cleanL_hos w.hs
      have x0 : ∀ a b c d e f : D, ixD (.tup [a, b, c, d, e, f]) (.int 0) = some a := fun _ _ _ _ _ _ => rfl
      have Wf : Well (k + 40) n (deskC odd cs1.length cs3 (some w)) := by
        unfold deskC
        simp only [hk2, if_true]
        split
        · exact W3
        · exact W3.put hne _
      by_cases hn : w.nm = ("zz" : Str)
      · refine ⟨.fz (.str odd), .fz (tupD w), .fz (.cell cs1.length), .fz (.lst [.str "ok", tupD w, .str (deskW odd (some w))]), deskC odd cs1.length cs3 (some w), ?_, Wf⟩
        have hnz : neD (.str w.nm) (.str "zz") = some (.bl false) := by rw [ne_ss, hn]; simp
        unfold tupD at hread q4 ⊢
        generalize hosD w.hs = hsD at hread q4 hch ⊢
        unfold b_law_2
        simp [runF, mSeq, mIf, mRet, mSkip, mVar, mC, mOp, mIsi, mNotV, mAndV, mOrV, mTest, mOr, mAnd, mNot, mCall0, lend_clean, back0, resD_clean, clean_non, clean_bl, clean_int, clean_str, clean_lst, clean_tup, clean_dct, clean_obj, cleanL_nil, cleanL_cons, mCons, mNil, ML.R.bind, ML.R.thenS, setS, lift2, cont_clean, cont_cell, cont_scr, cont_exn, contL, mCB, isSlot_clean, isSlot_cell, isSlot_exn, isSlot_slot, mAsg, gTp, gLs, gsCons, gsNil, gNm, mAug, tyD, kb_ii, kb_ib, kb_bi, kb_bb, kb_si, kb_ss, kb_tt, kb_ll, kb_tl, kb_sl, kb_dl, kb_il, kb_bl, mChain, mChain3, mSet, mSetOw, mRetN, mRaise, mDisp, noSlots, mDrop, mIter, mMeth, ofTy, mFor, forL, mPutF, mFld, putP, lookN, putN, flatB, flatD, max2D, min2D, mPart, mNoPart, mSl, orF, orC, gtD, ltD, leD, leI, geD, subI, addD_ii, modI, isN, isntN, mIfE, mNeg, mBreak, mCont, orE, boxed, ofStr_eq, mMake0, madeR, mOwn, methR, methC, backC, mCell, mSetKey, mSetIx, setL, mAugIx, mCall, mMake, madeC, mLc, mYes, wipeS, backS, backE, mMaxDf, intsD, mIsK, mFrz, frzS, size_le, size_lt, cleanL_append, mMut, appendU, cont_slotE, List.any, List.all, q1, hread, q2, q3, q4, q5, hch, kb_ts, x0, hnz, g2']
      · have hr := p_right (x := odd) (by omega) q hk2 hn g3
        have hnz : neD (.str w.nm) (.str "zz") = some (.bl true) := by rw [ne_ss]; simp [hn]
        refine ⟨.fz (.str odd), .fz (tupD w), .fz (.cell cs1.length), .fz (.lst [.str "ok", tupD w, .str (deskW odd (some w))]), deskC odd cs1.length cs3 (some w), ?_, Wf⟩
        unfold tupD at hread q4 hr ⊢
        generalize hosD w.hs = hsD at hread q4 hch hr ⊢
        unfold b_law_2
        simp [runF, mSeq, mIf, mRet, mSkip, mVar, mC, mOp, mIsi, mNotV, mAndV, mOrV, mTest, mOr, mAnd, mNot, mCall0, lend_clean, back0, resD_clean, clean_non, clean_bl, clean_int, clean_str, clean_lst, clean_tup, clean_dct, clean_obj, cleanL_nil, cleanL_cons, mCons, mNil, ML.R.bind, ML.R.thenS, setS, lift2, cont_clean, cont_cell, cont_scr, cont_exn, contL, mCB, isSlot_clean, isSlot_cell, isSlot_exn, isSlot_slot, mAsg, gTp, gLs, gsCons, gsNil, gNm, mAug, tyD, kb_ii, kb_ib, kb_bi, kb_bb, kb_si, kb_ss, kb_tt, kb_ll, kb_tl, kb_sl, kb_dl, kb_il, kb_bl, mChain, mChain3, mSet, mSetOw, mRetN, mRaise, mDisp, noSlots, mDrop, mIter, mMeth, ofTy, mFor, forL, mPutF, mFld, putP, lookN, putN, flatB, flatD, max2D, min2D, mPart, mNoPart, mSl, orF, orC, gtD, ltD, leD, leI, geD, subI, addD_ii, modI, isN, isntN, mIfE, mNeg, mBreak, mCont, orE, boxed, ofStr_eq, mMake0, madeR, mOwn, methR, methC, backC, mCell, mSetKey, mSetIx, setL, mAugIx, mCall, mMake, madeC, mLc, mYes, wipeS, backS, backE, mMaxDf, intsD, mIsK, mFrz, frzS, size_le, size_lt, cleanL_append, mMut, appendU, cont_slotE, List.any, List.all, q1, hread, q2, q3, q4, q5, hch, kb_ts, x0, hnz, hr, g2']
end K85
end
section
set_option Elab.async false
set_option linter.all false
set_option maxRecDepth 100000
set_option autoImplicit false
set_option maxHeartbeats 4000000
/-! K85xe: the law, whole. -/
namespace K85
open PySem ML
theorem law_turn (sc : D) (c : Int) (a2 a3 a4 a5 a6 a7 a8 : Sl) (cs : List D) : ∃ b2 b3 b4 b5 b6 b7 b8 cs', b_law_1 ⟨[.fz sc, .fz (.int c), a2, a3, a4, a5, a6, a7, a8], cs⟩ = .nx ⟨[.fz sc, .fz (.int c), b2, b3, b4, b5, b6, b7, b8], cs'⟩ := by
  obtain ⟨cs1, q1, W1⟩ := well_new c cs
  obtain ⟨n, hn⟩ : ∃ n, n = cs.length := ⟨_, rfl⟩
  rw [← hn] at q1 W1
  obtain ⟨w, cell, q2, W2, hG⟩ := p_text W1 (by omega)
  generalize cs1.set n cell = cs2 at q2 W2
  have hk := hG.good
  have hlen := hG.len
  have hread := p_lawT (x := w.text) (by omega) hG.asc
  have q3 := door0 (x := w.text) (by omega) .non cs2
  rw [hG.read] at hread q3
  have e6 : lawD (some w) = tupD w := by simp [lawD, hk]
  rw [e6] at hread q3
  have hne := ne_tup hk
  have hch := cleanL_hos w.hs
  obtain ⟨s', ef, b4, b5, b6, b7, b8, cs', rfl, _⟩ := forL_inv1 (g := gNm 4) (b := b_law_2) (fun k : Nat => D.int (k : Nat)) (fun l s => ∃ b4 b5 b6 b7 b8 cs', s = ⟨[.fz sc, .fz (.int c), .fz (.cell n), .fz (.str w.text), b4, b5, b6, b7, b8], cs'⟩ ∧ Well (20 + 40 * l.length) n cs') (List.range 4) ⟨[.fz sc, .fz (.int c), .fz (.cell n), .fz (.str w.text), a4, a5, a6, a7, a8], cs2⟩
    ⟨_, _, _, _, _, _, rfl, W2.mono (by simp)⟩ fun j l r s e ⟨b4, b5, b6, b7, b8, cs', es, W⟩ => by
      subst es
      obtain ⟨e1, e2, _⟩ := range_split e
      obtain ⟨c5, c6, c7, c8, cs2, f1, f2⟩ := turn_k sc (.int c) rfl W (by omega) (by omega) hG.asc j b5 b6 b7 b8
      refine ⟨_, rfl, _, .inl f1, _, c5, c6, c7, c8, cs2, rfl, ?_⟩
      rw [List.length_append, List.length_singleton]
      exact f2.mono (by omega)
  refine ⟨.fz (.cell n), .fz (.str w.text), b4, b5, b6, b7, b8, cs', ?_⟩
  have hr : ok62 4 := ok62_nat (n := 4) (by omega)
  have er : rangeD 0 4 = (List.range 4).map fun k => D.int (k : Nat) := rangeD_map 4
  generalize w.text = x at q2 hread q3 ef ⊢
  unfold tupD at hread q3 hne
  generalize hosD w.hs = hsD at hread q3 hne hch
  unfold b_law_1
  simp [runF, mSeq, mIf, mRet, mSkip, mVar, mC, mOp, mIsi, mNotV, mAndV, mOrV, mTest, mOr, mAnd, mNot, mCall0, lend_clean, back0, resD_clean, clean_non, clean_bl, clean_int, clean_str, clean_lst, clean_tup, clean_dct, clean_obj, cleanL_nil, cleanL_cons, mCons, mNil, ML.R.bind, ML.R.thenS, setS, lift2, cont_clean, cont_cell, cont_scr, cont_exn, contL, mCB, isSlot_clean, isSlot_cell, isSlot_exn, isSlot_slot, mAsg, gTp, gLs, gsCons, gsNil, gNm, mAug, tyD, kb_ii, kb_ib, kb_bi, kb_bb, kb_si, kb_ss, kb_tt, kb_ll, kb_tl, kb_sl, kb_dl, kb_il, kb_bl, mChain, mChain3, mSet, mSetOw, mRetN, mRaise, mDisp, noSlots, mDrop, mIter, mMeth, ofTy, mFor, forL, mPutF, mFld, putP, lookN, putN, flatB, flatD, max2D, min2D, mPart, mNoPart, mSl, orF, orC, gtD, ltD, leD, leI, geD, subI, addD_ii, modI, isN, isntN, mIfE, mNeg, mBreak, mCont, orE, boxed, ofStr_eq, mMake0, madeR, mOwn, methR, methC, backC, mCell, mSetKey, mSetIx, setL, mAugIx, mCall, mMake, madeC, mLc, mYes, wipeS, backS, backE, mMaxDf, intsD, mIsK, mFrz, frzS, size_le, size_lt, cleanL_append, mMut, appendU, cont_slotE, List.any, List.all, q1, q2, hread, q3, hne, hch, kb_ts, mRange1, hr, er, ef]
theorem p_law (ns : List Int) : ∃ cs, m_law [.scr ns] [] = .ok (.bl true) cs := by
  have hsl : ∃ is : List Int, slL (.scr ns) (some 1) (some 12) = some (.lst (is.map D.int)) ∧ is.length ≤ 100 := by
    refine ⟨_, rfl, ?_⟩
    show (cutD ns (some 1) (some 12)).length ≤ 100
    unfold cutD
    have : HT.sIx ns.length ns.length (some 12) ≤ 12 := by
      have := HT.sIx_nat ns.length ns.length 12
      rw [show ((12 : Nat) : Int) = 12 from rfl] at this
      rw [this]
      omega
    simp
    omega
  obtain ⟨is, hsl, his⟩ := hsl
  have hc := p_cell_at (ns := ns) (k := 0) []
  obtain ⟨s2, e2, f1, f2, f3, f4, f5, f6, f7, f8, cs, rfl⟩ := forL_inv1 (g := gNm 1) (b := b_law_1) D.int (fun _ s => ∃ f1 f2 f3 f4 f5 f6 f7 f8 cs, s = ⟨[.fz (.scr ns), f1, f2, f3, f4, f5, f6, f7, f8], cs⟩) (ns.getD 0 0 :: is)
    ⟨[.fz (.scr ns), .no, .no, .no, .no, .no, .no, .no, .no], []⟩ ⟨_, _, _, _, _, _, _, _, _, rfl⟩ fun x l r s e ⟨f1, f2, f3, f4, f5, f6, f7, f8, cs, es⟩ => by
      subst es
      obtain ⟨g2, g3, g4, g5, g6, g7, g8, cs', h⟩ := law_turn (.scr ns) x f2 f3 f4 f5 f6 f7 f8 cs
      exact ⟨_, rfl, _, .inl h, _, _, _, _, _, _, _, _, _, rfl⟩
  refine ⟨cs, ?_⟩
  have hadd := addD_ll (a := [.int (ns.getD 0 0)]) (b := is.map D.int) (by have := sizeLine_ge; simp; omega)
  rw [show (ns.getD 0 0 :: is).map D.int = [.int (ns.getD 0 0)] ++ is.map D.int from rfl] at e2
  have hcl := cleanL_ints (fun i : Int => i) is
  generalize ns.getD 0 0 = c0 at hc hadd e2
  have hcl : cleanL (is.map D.int) = true := hcl
  generalize is.map D.int = ds at hsl hadd e2 hcl
  have hc' : m_l_law_cell_at [.scr ns, .int 0] [] = .ok (.int c0) [] := hc
  generalize [D.int c0] ++ ds = its at hadd e2
  have hss : isSlot (.scr ns) = false := Eq.trans rfl rfl
  unfold m_law b_law
  simp [runF, mSeq, mIf, mRet, mSkip, mVar, mC, mOp, mIsi, mNotV, mAndV, mOrV, mTest, mOr, mAnd, mNot, mCall0, lend_clean, back0, resD_clean, clean_non, clean_bl, clean_int, clean_str, clean_lst, clean_tup, clean_dct, clean_obj, cleanL_nil, cleanL_cons, mCons, mNil, ML.R.bind, ML.R.thenS, setS, lift2, cont_clean, cont_cell, cont_scr, cont_exn, contL, mCB, isSlot_clean, isSlot_cell, isSlot_exn, isSlot_slot, mAsg, gTp, gLs, gsCons, gsNil, gNm, mAug, tyD, kb_ii, kb_ib, kb_bi, kb_bb, kb_si, kb_ss, kb_tt, kb_ll, kb_tl, kb_sl, kb_dl, kb_il, kb_bl, mChain, mChain3, mSet, mSetOw, mRetN, mRaise, mDisp, noSlots, mDrop, mIter, mMeth, ofTy, mFor, forL, mPutF, mFld, putP, lookN, putN, flatB, flatD, max2D, min2D, mPart, mNoPart, mSl, orF, orC, gtD, ltD, leD, leI, geD, subI, addD_ii, modI, isN, isntN, mIfE, mNeg, mBreak, mCont, orE, boxed, ofStr_eq, mMake0, madeR, mOwn, methR, methC, backC, mCell, mSetKey, mSetIx, setL, mAugIx, mCall, mMake, madeC, mLc, mYes, wipeS, backS, backE, mMaxDf, intsD, mIsK, mFrz, frzS, size_le, size_lt, cleanL_append, mMut, appendU, cont_slotE, List.any, List.all, hc', hss, hsl, hadd, e2, hcl]
end K85
end
section
set_option Elab.async false
set_option linter.all false
set_option maxRecDepth 100000
set_option autoImplicit false
set_option maxHeartbeats 0
/-! K85h: the head (printed by head.gen.py). -/
namespace K85
open PySem PySem.W PySem.Calls PySem.Spec PyProof.Rows L2 ML
def nm0 : List PySem.Str := ["_wall", "__name__", "is_whole", "rounds_up", "own", "DutyError", "BadWork", "BadDuty", "TooMany", "BadRow", "HoldsThings", "NoName", "NotKept", "NoRanks", "NoText", "NoRow", "LETTERS", "MOST_SIGNS", "MOST_HOLDS", "is_name", "from_on", "is_hold", "within", "together", "holds_fit", "Work", "FIGURES", "MOST_FIGURES", "is_number", "number_in"]
def nm1 : List PySem.Str := ["words_of", "show_hold", "read_hold", "show_work", "read_work", "show_coming", "read_coming", "show_row", "read_row", "MOST_COMINGS", "ready", "due_at", "in_range", "right_coming", "first_wrong", "checked", "put_on", "run", "ends", "missed", "ceiling", "holding", "rank", "hold_up", "comings_in", "load", "in_time", "answer", "blocker", "latest"]
def nm2 : List PySem.Str := ["early", "hardest", "packed", "MOST_WORKS", "MOST_CROWD", "made_again", "Duty", "too_full", "refuse_holds", "Order", "ByRank", "ByDue", "ByComing", "fits_weakest", "weakest", "ranked", "paper", "lines_of", "room", "slack", "CROWDED", "demand", "asked", "crowded", "bends", "spans", "Verdict", "Kept", "Broken", "broken_by"]
def nm3 : List PySem.Str := ["judge_ranks", "judge_due", "works_of", "with_work", "without_work", "in_order", "order_of", "show_stretch", "said_of_run", "said_of_row", "judged", "said_of_name", "said", "Desk", "_law_cell_at", "_law_well", "_law_draw", "_law_sign", "_law_text", "_law_spoilt", "_law_name", "_law_number", "_law_fit", "_law_read", "_law_word", "_law_desk_right"]
def nms : List PySem.Str := nm0 ++ nm1 ++ nm2 ++ nm3
abbrev R0 : PySem.W.OpenRow := PySem.W.OpenLaw.row PySem.Challenge.rw_dutyproof_k85_whole_works_texts_by_any_s
abbrev hk : PySem.W.Hook := hookX 4 fx fa fn
def ob (s : PySem.W.SharedT) : AlX := obsXG 4 fx fa fn (HandSHeadRun.getT s)
theorem ob_eq (s : PySem.W.SharedT) : ob s = hk.obs s.abs := obsXG_eq (HandSHeadRun.getT_eq s)
noncomputable abbrev eF (w : World) (os : OsState) : Option PySem.W.SharedT := HandSHeadRun.endF (HandSHeadRun.stepQ (HandSHeadRun.denQ HandSHeadRun.tabQ) R0.prog w) 20000 R0.prog w os
theorem run1 (w : World) (os : OsState) : (eF w os).map (fun s => HandSHeadRun.looksF R0.prog (boot_heap w.params) s.abs) = some true := by
  kernel_rfl
theorem run2 (w : World) (os : OsState) : (eF w os).map (fun s => HandSHeadRun.seenQ (PySem.W.view R0.prog [134]) nms (importedModules R0.prog.main.body) (fun s => PySem.W.xlAt (PySem.W.view R0.prog [134]) [] s && PySem.W.recOk R0.toRowW.records s) s.abs) = some (PySem.W.openGood (PySem.W.view R0.prog [134]) nms) := by
  kernel_rfl
noncomputable def KK (s : PySem.W.SharedT) : PySem.W.Frag := He.frG (HandSHeadRun.getT s) (asX (HandSHeadRun.getT s) 4)
theorem run3 (w : World) (os : OsState) : (eF w os).map (fun s => (fun K => obsX fx fa fn K) (KK s)) = some (valX fn) := by
  kernel_rfl
theorem run (w : World) : HandSHeadRun.RunEq R0 (PySem.W.view R0.prog [134]) hk ob 20000 nms w := by
  intro os
  have h1 := run1 w os
  have h2 := run2 w os
  have h3 := run3 w os
  show (eF w os).map _ = _
  cases e : eF w os with
  | none => rw [e] at h1; cases h1
  | some s =>
    rw [e] at h1 h2 h3
    have hob : ob s = hk.val w := Option.some.inj h3
    exact congrArg some (Prod.ext (Option.some.inj h1) (Prod.ext (Option.some.inj h2) hob))
end K85
end
section
set_option Elab.async false
set_option linter.all false
set_option maxRecDepth 100000
set_option autoImplicit false
set_option maxHeartbeats 0
/-! K85z: the statement (printed by end.gen.py). -/
namespace K85
open PySem PySem.Spec PyProof.Rows L2 ML
theorem facts {P : Program} {w : World} {K : PySem.W.Frag} {h : Heap} {mg : Str → Option Value} {f : Addr} (X : K.In h) (G : h.Ns mainGlobals mg) (hfa : mg ("law" : Str) = some (.ref f)) (c : SaysX fx fa fn K) :
    ∃ fd : FuncData, (∀ (s : Shared) (v : Value), BindsTo s fd ⟨[v], []⟩ [("script", v)]) ∧ ∀ base : Heap, K.In base → base.Ns mainGlobals mg → FnOk P w K mg base (L2.CX P w) 13 f fd ["script"] (spF (CC K) 1 m_law) := by
  have T0 : Txt P w mg h K := ⟨X, G, c⟩
  obtain ⟨fd, F⟩ := c.d.def_ 39 (d := D_law) rfl
  have e := hfa.symm.trans (f_law T0)
  cases e
  have b := FunD.bindsA (ps := ["script"]) F fun _ _ _ _ _ _ us hl => match us, hl with | [_], _ => rfl
  refine ⟨fd, fun s v => b s [v] rfl, fun base hb hg => ?_⟩
  have T : Txt P w mg base K := ⟨hb, hg, c⟩
  exact fn_okF (C := CC K) F sc_law (fun cdv A outer s H E hr => w_law T hr)
theorem ends {K : PySem.W.Frag} (H : Hp) (a : Addr) (ns : List Int) (hS : SqL K H a (ns.map V.int)) : spF (CC K) 1 m_law [.ref a] H (fun v _ => v = .bl true) fun _ _ _ => False := by
  obtain ⟨cs, e⟩ := p_law ns
  refine ⟨rfl, [], H, [.scr ns], [], Rel.bare (Ex.refl _), ⟨.ref a, [], rfl, ⟨a, rfl, hS⟩, rfl⟩, ?_⟩
  rw [e]
  intro ρ' F' H' v _ rv
  exact rv
end K85
open PySem PySem.W PySem.Calls PyProof.Rows
theorem PySem.Challenge.cw_dutyproof_k85_whole_works_texts_by_any_s_holds : PySem.Challenge.rw_dutyproof_k85_whole_works_texts_by_any_s.Holds := by
  w_on; o_law
  refine HandSHeadRun.head_any (r := OpenLaw.row PySem.Challenge.rw_dutyproof_k85_whole_works_texts_by_any_s) (q := view (OpenLaw.row PySem.Challenge.rw_dutyproof_k85_whole_works_texts_by_any_s).prog [134]) (H := K85.hk) (ob := K85.ob) (M := 20000) (loose := K85.nms) (d := HandSHeadRun.topDef (OpenLaw.row PySem.Challenge.rw_dutyproof_k85_whole_works_texts_by_any_s).prog 134) (kwd := []) K85.ob_eq
    (by kernel_rfl) (fun s => by kernel_rfl) K85.run (by kernel_rfl) (by kernel_rfl) (by kernel_rfl) (by rfl) (by first | assumption | decide +kernel) (by decide +kernel) ⟨rfl, rfl, rfl, rfl, rfl, by decide +kernel⟩ ?hw ?hc
  case hw => w_witness2
  case hc =>
    refine LamX.walk_ofTsE (l := PySem.Challenge.rw_dutyproof_k85_whole_works_texts_by_any_s) (n := 63) (k := 13) (x := "script") (CX := fun w => L2.CX (PySem.Challenge.rw_dutyproof_k85_whole_works_texts_by_any_s).prog w) rfl (by decide) (by kernel_rfl) ⟨rfl, by decide, by decide⟩ ?F ?C
    case C =>
      intro w H s e s' h
      obtain ⟨_, _, _, _, _, _, _, _, _, _, _, _, _, z⟩ := h
    intro w mg fa h Y G hmg0
    obtain ⟨K, KX, c⟩ := Y
    have hmg : mg ("law" : PySem.Str) = some (.ref fa) := by
      have e : (HandSHeadRun.topDef (OpenLaw.row PySem.Challenge.rw_dutyproof_k85_whole_works_texts_by_any_s).prog 134).name = ("law" : PySem.Str) := by kernel_rfl
      rw [← e]
      exact hmg0
    obtain ⟨fd, hb, hF⟩ := K85.facts (P := (PySem.Challenge.rw_dutyproof_k85_whole_works_texts_by_any_s).prog) (w := w) KX G hmg c
    exact ⟨K, KX, fd, [], _, fun p hp => (by cases hp), fun p hp => (by cases hp), fun p hp => (by cases hp), hb, fun H a ns _ _ _ hS => K85.ends H a ns hS, fun base h1 h2 _ => hF base h1 h2⟩
end
