import PyProof.Rows.All
import Wide.All
import OpenK.AllK
import Wide.FinOn
import HandS.ForMost
import HandS.ForExc
import HandS.ExcInit
import HandS.Deep
import HandS.SortRule
import HandS.SortInts
import HandS.IsInst
import HandS.Flow
import HandS.Wide
import HandS.SetFor
import PySem.Challenge.RW_tiesasplaces_k93_square_numbers_and_sums
set_option Elab.async false
set_option linter.all false
set_option maxHeartbeats 4000000
set_option maxRecDepth 100000
namespace DL
open PySem PySem.Spec PyProof.Rows L2

/-! ## data in a region -/
mutual
inductive DA (A : Addr → Prop) (H : Hp) : V → PyData → Prop
  | non : DA A H .non .none
  | bl (b : Bool) : DA A H (.bl b) (.bool b)
  | int (i : Int) : DA A H (.int i) (.int i)
  | str (x : Str) : DA A H (.str x) (.str x)
  | lst {a : Addr} {xs : List V} {ds : List PyData} : A a → H a = some (.lst xs) → xs.length ≤ sizeLine → DAs A H xs ds → DA A H (.ref a) (.list ds)
  | tup {a : Addr} {xs : List V} {ds : List PyData} : H a = some (.tup xs) → xs.length ≤ sizeLine → DAs A H xs ds → DA A H (.ref a) (.tuple ds)
inductive DAs (A : Addr → Prop) (H : Hp) : List V → List PyData → Prop
  | nil : DAs A H [] []
  | cons {v : V} {vs : List V} {d : PyData} {ds : List PyData} : DA A H v d → DAs A H vs ds → DAs A H (v :: vs) (d :: ds)
end

section
variable {A A' : Addr → Prop} {H H' : Hp}
mutual
theorem DA.map (hl : ∀ a xs, A a → H a = some (.lst xs) → A' a ∧ H' a = some (.lst xs)) (ht : ∀ a xs, H a = some (.tup xs) → H' a = some (.tup xs)) : ∀ {v : V} (d : PyData), DA A H v d → DA A' H' v d
  | _, .none, h => by cases h; exact .non
  | _, .bool b, h => by cases h; exact .bl b
  | _, .int i, h => by cases h; exact .int i
  | _, .str x, h => by cases h; exact .str x
  | _, .list ds, h => by
    cases h with
    | lst a r z q => exact .lst (hl _ _ a r).1 (hl _ _ a r).2 z (DAs.map hl ht ds q)
  | _, .tuple ds, h => by
    cases h with
    | tup r z q => exact .tup (ht _ _ r) z (DAs.map hl ht ds q)
  | _, .dict _, h => by cases h
theorem DAs.map (hl : ∀ a xs, A a → H a = some (.lst xs) → A' a ∧ H' a = some (.lst xs)) (ht : ∀ a xs, H a = some (.tup xs) → H' a = some (.tup xs)) : ∀ {vs : List V} (ds : List PyData), DAs A H vs ds → DAs A' H' vs ds
  | _, [], h => by cases h; exact .nil
  | _, d :: ds, h => by
    cases h with
    | cons h1 h2 => exact .cons (DA.map hl ht d h1) (DAs.map hl ht ds h2)
end
-- no list within
mutual
def noL : PyData → Bool
  | .list _ => false
  | .tuple ds => noLs ds
  | .dict _ => false
  | _ => true
def noLs : List PyData → Bool
  | [] => true
  | d :: ds => noL d && noLs ds
end
mutual
theorem DA.noL : ∀ {v : V} (d : PyData), noL d = true → DA A H v d → DA A' H v d
  | _, .none, _, h => by cases h; exact .non
  | _, .bool b, _, h => by cases h; exact .bl b
  | _, .int i, _, h => by cases h; exact .int i
  | _, .str x, _, h => by cases h; exact .str x
  | _, .list ds, n, h => by simp [DL.noL] at n
  | _, .tuple ds, n, h => by
    cases h with
    | tup r z q => exact .tup r z (DAs.noL ds (by simpa [DL.noL] using n) q)
  | _, .dict _, _, h => by cases h
theorem DAs.noL : ∀ {vs : List V} (ds : List PyData), noLs ds = true → DAs A H vs ds → DAs A' H vs ds
  | _, [], _, h => by cases h; exact .nil
  | _, d :: ds, n, h => by
    rw [noLs, Bool.and_eq_true] at n
    cases h with
    | cons h1 h2 => exact .cons (DA.noL d n.1 h1) (DAs.noL ds n.2 h2)
end
mutual
theorem DA.dp {K : PySem.W.Frag} : ∀ {v : V} (d : PyData), DA A H v d → Dp K H v d
  | _, .none, h => by cases h; exact .non
  | _, .bool b, h => by cases h; exact .bl b
  | _, .int i, h => by cases h; exact .int i
  | _, .str x, h => by cases h; exact .str x
  | _, .list ds, h => by
    cases h with
    | lst a r z q => exact .lst (.inl (.inl r)) (DAs.dp ds q)
  | _, .tuple ds, h => by
    cases h with
    | tup r z q => exact .tup (.inl (.inl r)) (DAs.dp ds q)
  | _, .dict _, h => by cases h
theorem DAs.dp {K : PySem.W.Frag} : ∀ {vs : List V} (ds : List PyData), DAs A H vs ds → DpAll K H vs ds
  | _, [], h => by cases h; exact .nil
  | _, d :: ds, h => by
    cases h with
    | cons h1 h2 => exact .cons (DA.dp d h1) (DAs.dp ds h2)
end
theorem DAs.length : ∀ {vs : List V} {ds : List PyData}, DAs A H vs ds → vs.length = ds.length
  | _, _, .nil => rfl
  | _, _, .cons _ t => congrArg (· + 1) (DAs.length t)
theorem DAs.append : ∀ {vs ws : List V} {ds es : List PyData}, DAs A H vs ds → DAs A H ws es → DAs A H (vs ++ ws) (ds ++ es)
  | _, _, _, _, .nil, s => s
  | _, _, _, _, .cons h t, s => .cons h (DAs.append t s)
theorem DAs.get : ∀ {vs : List V} {ds : List PyData} {i : Nat} {v : V}, DAs A H vs ds → vs[i]? = some v → ∃ d, ds[i]? = some d ∧ DA A H v d
  | _, _, _, _, .nil, e => by simp at e
  | _, _, 0, _, .cons h _, e => by simp at e; subst e; exact ⟨_, rfl, h⟩
  | _, _, i + 1, _, .cons _ t, e => by
    obtain ⟨d, h1, h2⟩ := DAs.get t (by simpa using e)
    exact ⟨d, by simpa using h1, h2⟩
theorem DAs.get' : ∀ {vs : List V} {ds : List PyData} {i : Nat} {d : PyData}, DAs A H vs ds → ds[i]? = some d → ∃ v, vs[i]? = some v ∧ DA A H v d
  | _, _, _, _, .nil, e => by simp at e
  | _, _, 0, _, .cons h _, e => by simp at e; subst e; exact ⟨_, rfl, h⟩
  | _, _, i + 1, _, .cons _ t, e => by
    obtain ⟨d, h1, h2⟩ := DAs.get' t (by simpa using e)
    exact ⟨d, by simpa using h1, h2⟩
theorem DAs.set {v : V} {d : PyData} (h : DA A H v d) : ∀ {vs : List V} {ds : List PyData} (i : Nat), DAs A H vs ds → DAs A H (vs.set i v) (ds.set i d)
  | _, _, _, .nil => .nil
  | _, _, 0, .cons _ t => .cons h t
  | _, _, i + 1, .cons q t => .cons q (DAs.set h i t)
theorem DAs.eraseIdx : ∀ {vs : List V} {ds : List PyData} (i : Nat), DAs A H vs ds → DAs A H (vs.eraseIdx i) (ds.eraseIdx i)
  | _, _, _, .nil => .nil
  | _, _, 0, .cons _ t => t
  | _, _, i + 1, .cons q t => .cons q (DAs.eraseIdx i t)
theorem DAs.take : ∀ {vs : List V} {ds : List PyData} (n : Nat), DAs A H vs ds → DAs A H (vs.take n) (ds.take n)
  | _, _, 0, _ => .nil
  | _, _, _ + 1, .nil => .nil
  | _, _, n + 1, .cons r t => .cons r (DAs.take n t)
theorem DAs.drop : ∀ {vs : List V} {ds : List PyData} (n : Nat), DAs A H vs ds → DAs A H (vs.drop n) (ds.drop n)
  | _, _, 0, r => r
  | _, _, _ + 1, .nil => .nil
  | _, _, n + 1, .cons _ t => DAs.drop n t
theorem DAs.dropLast {vs : List V} {ds : List PyData} (h : DAs A H vs ds) : DAs A H vs.dropLast ds.dropLast := by
  rw [List.dropLast_eq_take, List.dropLast_eq_take, h.length]
  exact h.take _
theorem DAs.ints : ∀ {vs : List V} {ns : List Int}, DAs A H vs (ns.map PyData.int) → vs = ns.map V.int
  | [], [], _ => rfl
  | v :: vs, n :: ns, h => by
    cases h with
    | cons h1 h2 =>
      cases h1
      rw [List.map_cons, DAs.ints h2]
  | [], _ :: _, h => nomatch h
  | _ :: _, [], h => nomatch h
theorem DAs.of_ints : ∀ (ns : List Int), DAs A H (ns.map V.int) (ns.map PyData.int)
  | [] => .nil
  | n :: ns => .cons (.int n) (DAs.of_ints ns)
theorem DAs.bls : ∀ {vs : List V} {ns : List Bool}, DAs A H vs (ns.map PyData.bool) → vs = ns.map V.bl
  | [], [], _ => rfl
  | v :: vs, n :: ns, h => by
    cases h with
    | cons h1 h2 =>
      cases h1
      rw [List.map_cons, DAs.bls h2]
  | [], _ :: _, h => nomatch h
  | _ :: _, [], h => nomatch h
theorem DAs.strs : ∀ {vs : List V} {ns : List Str}, DAs A H vs (ns.map PyData.str) → vs = ns.map V.str
  | [], [], _ => rfl
  | v :: vs, n :: ns, h => by
    cases h with
    | cons h1 h2 =>
      cases h1
      rw [List.map_cons, DAs.strs h2]
  | [], _ :: _, h => nomatch h
  | _ :: _, [], h => nomatch h
theorem DAs.of_strs : ∀ (ns : List Str), DAs A H (ns.map V.str) (ns.map PyData.str)
  | [] => .nil
  | n :: ns => .cons (.str n) (DAs.of_strs ns)
end
/-- what never changes -/
def imm : HO → Bool
  | .tup _ => true
  | _ => false
/-- all is kept but the lists in M -/
def Evo (M : Addr → Prop) (H H' : Hp) : Prop := ∀ a o, (¬ M a ∨ imm o = true) → H a = some o → H' a = some o
theorem Evo.refl (M : Addr → Prop) (H : Hp) : Evo M H H := fun _ _ _ h => h
theorem Evo.of_same {M : Addr → Prop} {H H' : Hp} (h : Same H H') : Evo M H H' := fun a o _ e => h a o e
theorem Evo.mono {M M' : Addr → Prop} {H H' : Hp} (h : Evo M H H') (hm : ∀ a, M a → M' a) : Evo M' H H' := fun a o q e => h a o (q.imp (fun z y => z (hm a y)) id) e
theorem Evo.trans {M M' : Addr → Prop} {H H1 H2 : Hp} (h : Evo M H H1) (h' : Evo M' H1 H2) (hm : ∀ a, M' a → M a ∨ H a = none) : Evo M H H2 := fun a o q e =>
  h' a o (q.imp (fun z y => (hm a y).elim z fun n => by rw [e] at n; cases n) id) (h a o q e)
theorem Evo.free {M : Addr → Prop} {H H' : Hp} (h : Evo M H H') {a : Addr} (n : H' a = none) : H a = none ∨ M a := by
  by_cases hm : M a
  · exact .inr hm
  · left
    cases e : H a with
    | none => rfl
    | some o => rw [h a o (.inl hm) e] at n; cases n
theorem DA.evo {A A' M : Addr → Prop} {H H' : Hp} {v : V} {d : PyData} (x : DA A H v d) (h : Evo M H H') (n : ∀ a, A a → ¬ M a) (k : ∀ a o, H a = some o → A a → A' a) : DA A' H' v d :=
  DA.map (fun a xs ha r => ⟨k a _ r ha, h a _ (.inl (n a ha)) r⟩) (fun a xs r => h a _ (.inr rfl) r) d x
theorem DAs.evo {A A' M : Addr → Prop} {H H' : Hp} {v : List V} {d : List PyData} (x : DAs A H v d) (h : Evo M H H') (n : ∀ a, A a → ¬ M a) (k : ∀ a o, H a = some o → A a → A' a) : DAs A' H' v d :=
  DAs.map (fun a xs ha r => ⟨k a _ r ha, h a _ (.inl (n a ha)) r⟩) (fun a xs r => h a _ (.inr rfl) r) d x
theorem same_new {H : Hp} {p : Addr} {o : HO} (n : H p = none) : Same H (upd H p o) := fun a u e => by
  rw [upd_ne (ne_of_none e n)]; exact e

/-! ## the state of a def, over data -/
/-- the law's feed: its own list, the script's cells -/
structure Feed where
  a : Addr
  ca : Addr
  ns : List Int
def FeedAt (H : Hp) (F : Feed) : Prop := (∃ i big seed : Int, H F.a = some (.lst [.ref F.ca, .int i, .int big, .int seed]) ∧ 0 ≤ i ∧ 0 ≤ big ∧ 0 ≤ seed ∧ seed < 2147483647) ∧
  H F.ca = some (.lst (F.ns.map V.int)) ∧ F.ns.length ≤ 63 ∧ F.ca ≠ F.a
/-- what is fixed through a def: which addresses are new since the entry, the feed -/
structure Cf where
  F0 : Addr → Prop
  fd : Option Feed
def fa (c : Cf) (a : Addr) : Prop := ∃ F, c.fd = some F ∧ a = F.a
abbrev Rgn := Addr → Prop
def Mo (c : Cf) (Z : Rgn) (S : Nat → Rgn) (a : Addr) : Prop := Z a ∨ (∃ i, S i a) ∨ fa c a
/-- how a value may be shared: any (read now), pl (in no list that is changed), fr (and new since the entry) -/
inductive Rk | any | pl | fr
  deriving DecidableEq
def Rk.le : Rk → Rk → Bool
  | .any, _ => true
  | .pl, .any => false
  | .pl, _ => true
  | .fr, .fr => true
  | .fr, _ => false
def Rg (c : Cf) (M : Rgn) : Rk → Rgn
  | .any => fun a => ¬ fa c a
  | .pl => fun a => ¬ M a
  | .fr => fun a => ¬ M a ∧ c.F0 a
/-- what a slot holds -/
inductive LD where
  | no
  | d (m : Rk) (x : PyData)
  | own (m : Rk) (xs : List PyData)
  | frs (x : PyData)
  | fd
def RV (c : Cf) (M : Rgn) (S : Rgn) (H : Hp) (sv : Option (Option V)) : LD → Prop
  | .no => True
  | .d m x => m ≠ .any ∧ ∃ v, sv = some (some v) ∧ DA (Rg c M m) H v x
  | .own m xs => m ≠ .any ∧ ∃ a vs, sv = some (some (.ref a)) ∧ S a ∧ c.F0 a ∧ H a = some (.lst vs) ∧ vs.length ≤ sizeLine ∧ DAs (Rg c M m) H vs xs
  | .frs x => ∃ v, sv = some (some v) ∧ DA S H v x
  | .fd => ∃ F, c.fd = some F ∧ sv = some (some (.ref F.a))
structure Rep (c : Cf) (Z : Rgn) (S : Nat → Rgn) (H : Hp) (σ : L2.St) (Γ : List LD) : Prop where
  slot : ∀ i l, Γ[i]? = some l → RV c (Mo c Z S) (S i) H σ[i]? l
  disj : ∀ i j a, S i a → S j a → i = j
  zs : ∀ i a, S i a → ¬ Z a ∧ ¬ fa c a
  dom : ∀ a, H a = none → c.F0 a ∧ ¬ Mo c Z S a
  feed : ∀ F, c.fd = some F → FeedAt H F ∧ ¬ Mo c Z S F.ca
  len : Γ.length ≤ σ.length
  zf : ∀ a, Z a → ¬ fa c a
theorem mo_fa {c : Cf} {Z : Rgn} {S : Nat → Rgn} {a : Addr} (h : fa c a) : Mo c Z S a := .inr (.inr h)
section
variable {c : Cf} {Z : Rgn} {S S' : Nat → Rgn} {H H' : Hp} {σ σ' : L2.St} {Γ Γ' : List LD}
theorem rg_nfa {M : Rgn} (hM : ∀ a, fa c a → M a) : ∀ (m : Rk) a, Rg c M m a → ¬ fa c a
  | .any, _, h => h
  | .pl, a, h => fun z => h (hM a z)
  | .fr, a, h => fun z => h.1 (hM a z)
theorem Rep.new (R : Rep c Z S H σ Γ) : ∀ (m : Rk) (a : Addr), H a = none → Rg c (Mo c Z S) m a
  | .any, a, n => fun z => (R.dom a n).2 (mo_fa z)
  | .pl, a, n => (R.dom a n).2
  | .fr, a, n => ⟨(R.dom a n).2, (R.dom a n).1⟩
theorem rg_le {M : Rgn} (hM : ∀ a, fa c a → M a) : ∀ {m m' : Rk}, m.le m' = true → ∀ a, Rg c M m' a → Rg c M m a
  | .any, .any, _, _, h => h
  | .any, .pl, _, a, h => fun z => h (hM a z)
  | .any, .fr, _, a, h => fun z => h.1 (hM a z)
  | .pl, .pl, _, _, h => h
  | .pl, .fr, _, _, h => h.1
  | .fr, .fr, _, _, h => h
theorem da_le {M : Rgn} (hM : ∀ a, fa c a → M a) {m m' : Rk} (h : m.le m' = true) {v : V} {d : PyData} (x : DA (Rg c M m') H v d) : DA (Rg c M m) H v d :=
  DA.map (fun a xs ha r => ⟨rg_le hM h a ha, r⟩) (fun a xs r => r) d x
/-- the heap grows or the feed turns: S stays -/
theorem Rep.step (R : Rep c Z S H σ Γ) (e : Evo (fa c) H H') (hf : ∀ F, c.fd = some F → FeedAt H' F) : Rep c Z S H' σ Γ := by
  have k : ∀ (m : Rk) a, Rg c (Mo c Z S) m a → ¬ fa c a := rg_nfa fun a => mo_fa
  refine ⟨fun i l q => ?_, R.disj, R.zs, fun a n => ?_, fun F q => ⟨hf F q, (R.feed F q).2⟩, R.len, R.zf⟩
  · have r := R.slot i l q
    cases l with
    | no => trivial
    | d m x => obtain ⟨nm, v, e1, h⟩ := r; exact ⟨nm, v, e1, h.evo e (k m) fun _ _ _ z => z⟩
    | own m xs => obtain ⟨nm, a, vs, e1, s, f0, h, z, hs⟩ := r; exact ⟨nm, a, vs, e1, s, f0, e a _ (.inl (R.zs i a s).2) h, z, hs.evo e (k m) fun _ _ _ z => z⟩
    | frs x => obtain ⟨v, e1, h⟩ := r; exact ⟨v, e1, h.evo e (fun a z => (R.zs i a z).2) fun _ _ _ z => z⟩
    | fd => exact r
  · rcases e.free n with z | ⟨F, hF, rfl⟩
    · exact R.dom a z
    · obtain ⟨⟨_, _, _, h, _⟩, _⟩ := hf F hF
      rw [n] at h; cases h
theorem Rep.same (R : Rep c Z S H σ Γ) (e : Same H H') : Rep c Z S H' σ Γ :=
  R.step (.of_same e) fun F q => by
    obtain ⟨⟨⟨i, b, s, h, r⟩, rd, z⟩, _⟩ := R.feed F q
    exact ⟨⟨i, b, s, e _ _ h, r⟩, e _ _ rd, z⟩
end
end DL

namespace DL
open PySem PySem.Spec PyProof.Rows L2

/-! ## plain values as data -/
class Enc (α : Type) where
  enc : α → PyData
  nl : Bool
  nlok : nl = true → ∀ a, noL (enc a) = true
open Enc (enc)
instance : Enc Int := ⟨.int, true, fun _ _ => rfl⟩
instance : Enc Bool := ⟨.bool, true, fun _ _ => rfl⟩
instance : Enc Str := ⟨.str, true, fun _ _ => rfl⟩
instance : Enc Unit := ⟨fun _ => .none, true, fun _ _ => rfl⟩
instance : Enc PyData := ⟨id, false, fun h => nomatch h⟩
instance {α : Type} [Enc α] : Enc (List α) := ⟨fun xs => .list (xs.map enc), false, fun h => nomatch h⟩
instance {α β : Type} [Enc α] [Enc β] : Enc (α × β) := ⟨fun p => .tuple [enc p.1, enc p.2], Enc.nl α && Enc.nl β, fun h a => by
  rw [Bool.and_eq_true] at h
  simp only [noL, noLs, Enc.nlok h.1, Enc.nlok h.2, Bool.and_true]⟩
instance {α : Type} [Enc α] : Enc (Option α) := ⟨fun o => match o with | none => .none | some a => enc a, Enc.nl α, fun h a => by
  cases a with
  | none => rfl
  | some a => exact Enc.nlok h a⟩
/-- triples, fours -/
structure T3 (α β γ : Type) where
  a : α
  b : β
  c : γ
  deriving DecidableEq
structure T4 (α β γ δ : Type) where
  a : α
  b : β
  c : γ
  d : δ
  deriving DecidableEq
instance {α β γ : Type} [Enc α] [Enc β] [Enc γ] : Enc (T3 α β γ) := ⟨fun p => .tuple [enc p.a, enc p.b, enc p.c], Enc.nl α && Enc.nl β && Enc.nl γ, fun h a => by
  rw [Bool.and_eq_true, Bool.and_eq_true] at h
  simp only [noL, noLs, Enc.nlok h.1.1, Enc.nlok h.1.2, Enc.nlok h.2, Bool.and_true]⟩
instance {α β γ δ : Type} [Enc α] [Enc β] [Enc γ] [Enc δ] : Enc (T4 α β γ δ) := ⟨fun p => .tuple [enc p.a, enc p.b, enc p.c, enc p.d], Enc.nl α && Enc.nl β && Enc.nl γ && Enc.nl δ, fun h a => by
  rw [Bool.and_eq_true, Bool.and_eq_true, Bool.and_eq_true] at h
  simp only [noL, noLs, Enc.nlok h.1.1.1, Enc.nlok h.1.1.2, Enc.nlok h.1.2, Enc.nlok h.2, Bool.and_true]⟩

/-! ## the judgements -/
def Mono {α : Type} (W : (α → Prop) → Prop) : Prop := ∀ Q Q' : α → Prop, (∀ a, Q a → Q' a) → W Q → W Q'
abbrev Wr {α : Type} (a : α) : (α → Prop) → Prop := fun Q => Q a
abbrev Wp {α : Type} (P : Prop) (a : α) : (α → Prop) → Prop := fun Q => P ∧ Q a
theorem mono_wp {α : Type} {P : Prop} {a : α} : Mono (Wp P a) := fun _ _ h q => ⟨q.1, h _ q.2⟩
theorem PE.mono {X : Cx} {e : Expr} {t t' : TE} (h : PE X e t) (k : ∀ σ H Q, t' σ H Q → t σ H Q) : PE X e t' := ⟨fun pins s σ H Q I q => h.run pins s σ H Q I (k σ H Q q)⟩
theorem PT.mono {X : Cx} {e : Expr} {t t' : TT} (h : PT X e t) (k : ∀ σ H Q, t' σ H Q → t σ H Q) : PT X e t' := ⟨fun pins s σ H Q I q => h.run pins s σ H Q I (k σ H Q q)⟩
theorem PW.mono {X : Cx} {e : Expr} {t t' : TT} (h : PW X e t) (k : ∀ σ H Q, t' σ H Q → t σ H Q) : PW X e t' := ⟨fun w pins s σ H Q I q => h.run w pins s σ H Q I (k σ H Q q)⟩
theorem PA.mono {X : Cx} {e : List Expr} {t t' : TA} (h : PA X e t) (k : ∀ σ H Q, t' σ H Q → t σ H Q) : PA X e t' := ⟨fun p pins s σ H Q I q => h.run p pins s σ H Q I (k σ H Q q)⟩
theorem PI.mono {X : Cx} {tg e : Expr} {t t' : TI} (h : PI X tg e t) (k : ∀ σ H Q, t' σ H Q → t σ H Q) : PI X tg e t' := ⟨fun pins s σ H Q I q => h.run pins s σ H Q I (k σ H Q q)⟩
theorem PS.mono {X : Cx} {e : Stmt} {t t' : TS} (h : PS X e t) (k : ∀ D σ H, t' D σ H → t D σ H) : PS X e t' := ⟨fun pins s σ H D I q => h.run pins s σ H D I (k D σ H q)⟩
theorem PSs.mono {X : Cx} {e : List Stmt} {t t' : TS} (h : PSs X e t) (k : ∀ D σ H, t' D σ H → t D σ H) : PSs X e t' := ⟨fun pins s σ H D I q => h.run pins s σ H D I (k D σ H q)⟩

section
variable {α β γ δ : Type} [Enc α] [Enc β] [Enc γ] [Enc δ]
/-- an expression gives a value -/
def tW (c : Cf) (Γ : List LD) (m : Rk) (W : (α → Prop) → Prop) : TE := fun σ H Q => ∃ Z S, Rep c Z S H σ Γ ∧ W fun a => ∀ v H', Evo (fa c) H H' → Rep c Z S H' σ Γ → DA (Rg c (Mo c Z S) m) H' v (enc a) → Q v H'
structure WX (X : Cx) (c : Cf) (Γ : List LD) (m : Rk) (e : Expr) (W : (α → Prop) → Prop) : Prop where
  mo : Mono W
  run : PE X e (tW c Γ m W)
/-- a test -/
def tWT (c : Cf) (Γ : List LD) (W : (Bool → Prop) → Prop) : TT := fun σ H Q => ∃ Z S, Rep c Z S H σ Γ ∧ W fun b => ∀ H', Evo (fa c) H H' → Rep c Z S H' σ Γ → Q b H'
structure WT (X : Cx) (c : Cf) (Γ : List LD) (e : Expr) (W : (Bool → Prop) → Prop) : Prop where
  mo : Mono W
  run : PT X e (tWT c Γ W)
structure WTw (X : Cx) (c : Cf) (Γ : List LD) (e : Expr) (W : (Bool → Prop) → Prop) : Prop where
  mo : Mono W
  run : PW X e (tWT c Γ W)
/-- arguments -/
def tWA (c : Cf) (Γ : List LD) (m : Rk) (W : (List PyData → Prop) → Prop) : TA := fun σ H Q => ∃ Z S, Rep c Z S H σ Γ ∧ W fun ds => ∀ vs H', Evo (fa c) H H' → Rep c Z S H' σ Γ → DAs (Rg c (Mo c Z S) m) H' vs ds → Q vs H'
structure WA (X : Cx) (c : Cf) (Γ : List LD) (m : Rk) (es : List Expr) (W : (List PyData → Prop) → Prop) : Prop where
  mo : Mono W
  run : PA X es (tWA c Γ m W)
variable {X : Cx} {c : Cf} {Γ : List LD} {m m' m1 m2 : Rk} {e e1 e2 : Expr} {es : List Expr} {pos : Pos}

theorem WX.imp {W W' : (α → Prop) → Prop} (h : WX X c Γ m e W) (k : ∀ Q, W' Q → W Q) (mo : Mono W') : WX X c Γ m e W' :=
  ⟨mo, PE.mono h.run fun σ H Q ⟨Z, S, R, w⟩ => ⟨Z, S, R, k _ w⟩⟩
theorem WT.imp {W W' : (Bool → Prop) → Prop} (h : WT X c Γ e W) (k : ∀ Q, W' Q → W Q) (mo : Mono W') : WT X c Γ e W' :=
  ⟨mo, PT.mono h.run fun σ H Q ⟨Z, S, R, w⟩ => ⟨Z, S, R, k _ w⟩⟩
theorem WTw.imp {W W' : (Bool → Prop) → Prop} (h : WTw X c Γ e W) (k : ∀ Q, W' Q → W Q) (mo : Mono W') : WTw X c Γ e W' :=
  ⟨mo, PW.mono h.run fun σ H Q ⟨Z, S, R, w⟩ => ⟨Z, S, R, k _ w⟩⟩
/-- a weaker mode -/
theorem WX.le {W : (α → Prop) → Prop} (h : WX X c Γ m' e W) (k : m.le m' = true := by rfl) : WX X c Γ m e W :=
  ⟨h.mo, PE.mono h.run fun σ H Q ⟨Z, S, R, w⟩ => ⟨Z, S, R, h.mo _ _ (fun a q v H' ev r d => q v H' ev r (da_le (fun a => mo_fa) k d)) w⟩⟩
/-- what holds no list may be shared -/
theorem WX.nl {W : (α → Prop) → Prop} (h : WX X c Γ m' e W) (k : Enc.nl α = true := by rfl) : WX X c Γ m e W :=
  ⟨h.mo, PE.mono h.run fun σ H Q ⟨Z, S, R, w⟩ => ⟨Z, S, R, h.mo _ _ (fun a q v H' ev r d => q v H' ev r (DA.noL _ (Enc.nlok k a) d)) w⟩⟩

/-! ### names, constants -/
theorem wx_var (i : Nat) {a : α} {x : Str} (hΓ : Γ[i]? = some (.d m (enc a)) := by rfl) (hN : X.N[i]? = some x := by rfl) (hv : Vis X.env.scope x := by first | exact Or.inl rfl | exact Or.inr (Or.inl rfl) | exact Or.inr (Or.inr rfl)) (hd : (x == ("__debug__" : Str)) = false := by decide)
    (hcd : (x == ("__classdict__" : Str)) = false := by decide) : WX X c Γ m (.Name x pos) (Wp True a) :=
  ⟨mono_wp, PE.mono (pe_var hN hv hd hcd) fun σ H Q ⟨Z, S, R, _, w⟩ => by
    obtain ⟨_, v, e, d⟩ := R.slot i _ hΓ
    exact ⟨v, e, w v H (.refl _ _) R d⟩⟩
/-- an own list, read now -/
theorem wx_own (i : Nat) {a : List α} {x : Str} (hΓ : Γ[i]? = some (.own m (a.map enc)) := by rfl) (hN : X.N[i]? = some x := by rfl) (hv : Vis X.env.scope x := by first | exact Or.inl rfl | exact Or.inr (Or.inl rfl) | exact Or.inr (Or.inr rfl)) (hd : (x == ("__debug__" : Str)) = false := by decide)
    (hcd : (x == ("__classdict__" : Str)) = false := by decide) : WX X c Γ .any (.Name x pos) (Wp True a) :=
  ⟨mono_wp, PE.mono (pe_var hN hv hd hcd) fun σ H Q ⟨Z, S, R, _, w⟩ => by
    obtain ⟨_, p, vs, e, s, f0, h, z, hs⟩ := R.slot i _ hΓ
    exact ⟨_, e, w _ H (.refl _ _) R (.lst (R.zs i p s).2 h z (DAs.map (fun a xs ha r => ⟨rg_nfa (fun a => mo_fa) m a ha, r⟩) (fun a xs r => r) _ hs))⟩⟩
/-- what was handed out, read now -/
theorem wx_frs (i : Nat) {a : α} {x : Str} (hΓ : Γ[i]? = some (.frs (enc a)) := by rfl) (hN : X.N[i]? = some x := by rfl) (hv : Vis X.env.scope x := by first | exact Or.inl rfl | exact Or.inr (Or.inl rfl) | exact Or.inr (Or.inr rfl)) (hd : (x == ("__debug__" : Str)) = false := by decide)
    (hcd : (x == ("__classdict__" : Str)) = false := by decide) : WX X c Γ .any (.Name x pos) (Wp True a) :=
  ⟨mono_wp, PE.mono (pe_var hN hv hd hcd) fun σ H Q ⟨Z, S, R, _, w⟩ => by
    obtain ⟨v, e, d⟩ := R.slot i _ hΓ
    exact ⟨v, e, w v H (.refl _ _) R (DA.map (fun a xs ha r => ⟨(R.zs i a ha).2, r⟩) (fun a xs r => r) _ d)⟩⟩
theorem wx_of_c {v : V} {a : α} (h : PE X e (fun _ H Q => Q v H)) (d : ∀ (A : Rgn) (H : Hp), DA A H v (enc a)) : WX X c Γ m e (Wp True a) :=
  ⟨mono_wp, PE.mono h fun σ H Q ⟨Z, S, R, _, w⟩ => w v H (.refl _ _) R (d _ _)⟩
theorem wx_int {i : Int} {j : Nat} : WX X c Γ m (.Constant (.int i) j pos) (Wp True i) := wx_of_c pe_int fun _ _ => .int i
theorem wx_str {i : Str} {j : Nat} : WX X c Γ m (.Constant (.str i) j pos) (Wp True i) := wx_of_c pe_str fun _ _ => .str i
theorem wx_none {j : Nat} : WX X c Γ m (.Constant .none j pos) (Wp True ()) := wx_of_c pe_non fun _ _ => .non
theorem wx_noneO {j : Nat} : WX X c Γ m (.Constant .none j pos) (Wp True (none : Option α)) := wx_of_c pe_non fun _ _ => .non
theorem wx_noneD {j : Nat} : WX X c Γ m (.Constant .none j pos) (Wp True (PyData.none)) := wx_of_c pe_non fun _ _ => .non
theorem wx_bl {b : Bool} {j : Nat} : WX X c Γ m (.Constant (.bool b) j pos) (Wp True b) := wx_of_c pe_bl fun _ _ => .bl b
/-- seen as data, as an option -/
theorem WX.data {P : Prop} {a : α} (h : WX X c Γ m e (Wp P a)) : WX X c Γ m e (Wp P (enc a : PyData)) :=
  ⟨mono_wp, PE.mono h.run fun σ H Q ⟨Z, S, R, p, w⟩ => ⟨Z, S, R, p, w⟩⟩
theorem WX.some {P : Prop} {a : α} (h : WX X c Γ m e (Wp P a)) : WX X c Γ m e (Wp P (some a : Option α)) :=
  ⟨mono_wp, PE.mono h.run fun σ H Q ⟨Z, S, R, p, w⟩ => ⟨Z, S, R, p, w⟩⟩
theorem WX.some' {P : Prop} {o : Option α} {a : α} (h : WX X c Γ m e (Wp P o)) (k : o = Option.some a) : WX X c Γ m e (Wp P a) := by
  subst k
  exact ⟨mono_wp, PE.mono h.run fun σ H Q ⟨Z, S, R, p, w⟩ => ⟨Z, S, R, p, w⟩⟩

/-! ### operators by values -/
/-- r serves data: of operands in A it makes a value in A -/
def DOp (r : R2) (C : α → β → Prop) (g : α → β → γ) : Prop := ∀ (A : Rgn) (H : Hp) (x y : V) (a : α) (b : β) (Q : VK), (∀ p, H p = none → A p) → DA A H x (enc a) → DA A H y (enc b) → C a b →
  (∀ v H', Same H H' → DA A H' v (enc (g a b)) → Q v H') → r x y H Q
def DUn (r : V → Hp → VK → Prop) (C : α → Prop) (g : α → β) : Prop := ∀ (A : Rgn) (H : Hp) (x : V) (a : α) (Q : VK), (∀ p, H p = none → A p) → DA A H x (enc a) → C a →
  (∀ v H', Same H H' → DA A H' v (enc (g a)) → Q v H') → r x H Q
theorem feed_same {H H' : Hp} {F : Feed} (e : Same H H') (h : FeedAt H F) : FeedAt H' F := by
  obtain ⟨⟨i, b, s, h, r⟩, rd, z⟩ := h
  exact ⟨⟨i, b, s, e _ _ h, r⟩, e _ _ rd, z⟩
/-- two operands: what their rules ask -/
theorem two_ok {r : R2} {C : α → β → Prop} {g : α → β → γ} (hd : DOp r C g) {Wa : (α → Prop) → Prop} {Wb : (β → Prop) → Prop} (ma : Mono Wa) (mb : Mono Wb) {σ : L2.St} {H : Hp} {Q : VK}
    (h : tW c Γ m (fun Q => Wa fun a => Wb fun b => C a b ∧ Q (g a b)) σ H Q) : tW c Γ m Wa σ H fun x H1 => tW c Γ m Wb σ H1 fun y H2 => r x y H2 Q := by
  obtain ⟨Z, S, R, w⟩ := h
  refine ⟨Z, S, R, ma _ _ (fun a w v H1 ev1 R1 d1 => ⟨Z, S, R1, mb _ _ (fun b w u H2 ev2 R2 d2 => ?_) w⟩) w⟩
  refine hd (Rg c (Mo c Z S) m) H2 v u a b Q (R2.new m) (d1.evo ev2 (rg_nfa (fun a => mo_fa) m) fun _ _ _ z => z) d2 w.1 fun z H3 sm d3 => ?_
  exact w.2 z H3 ((ev1.trans ev2 fun a q => .inl q).trans (.of_same sm) fun a q => .inl q) (R2.same sm) d3
theorem mono_two {C : α → β → Prop} {g : α → β → γ} {Wa : (α → Prop) → Prop} {Wb : (β → Prop) → Prop} (ma : Mono Wa) (mb : Mono Wb) : Mono (fun Q => Wa fun a => Wb fun b => C a b ∧ Q (g a b)) :=
  fun _ _ k w => ma _ _ (fun a w => mb _ _ (fun b w => ⟨w.1, k _ w.2⟩) w) w
theorem wx_op {op : Operator} {r : R2} {C : α → β → Prop} {g : α → β → γ} (ho : OpR X (binaryOp op) r) (hd : DOp r C g) {Wa : (α → Prop) → Prop} {Wb : (β → Prop) → Prop} (ha : WX X c Γ m e1 Wa) (hb : WX X c Γ m e2 Wb) :
    WX X c Γ m (.BinOp e1 op e2 pos) (fun Q => Wa fun a => Wb fun b => C a b ∧ Q (g a b)) :=
  ⟨mono_two ha.mo hb.mo, PE.mono (pe_op ho ha.run hb.run) fun σ H Q h => two_ok hd ha.mo hb.mo h⟩
theorem px_op {op : Operator} {r : R2} {C : α → β → Prop} {g : α → β → γ} (ho : OpR X (binaryOp op) r) (hd : DOp r C g) {Pa Pb : Prop} {a : α} {b : β} (ha : WX X c Γ m e1 (Wp Pa a)) (hb : WX X c Γ m e2 (Wp Pb b)) :
    WX X c Γ m (.BinOp e1 op e2 pos) (Wp (Pa ∧ Pb ∧ C a b) (g a b)) := (wx_op ho hd ha hb).imp (fun Q h => ⟨h.1.1, h.1.2.1, h.1.2.2, h.2⟩) mono_wp
/-- operators without a condition -/
theorem px_op0 {op : Operator} {r : R2} {g : α → β → γ} (ho : OpR X (binaryOp op) r) (hd : DOp r (fun _ _ => True) g) {Pa Pb : Prop} {a : α} {b : β} (ha : WX X c Γ m e1 (Wp Pa a)) (hb : WX X c Γ m e2 (Wp Pb b)) :
    WX X c Γ m (.BinOp e1 op e2 pos) (Wp (Pa ∧ Pb) (g a b)) := (wx_op ho hd ha hb).imp (fun Q h => ⟨h.1.1, h.1.2, trivial, h.2⟩) mono_wp
theorem wx_un {op : UnaryOp} {r : V → Hp → VK → Prop} {C : α → Prop} {g : α → β} (ho : UnR X (unaryOp op) r) (hd : DUn r C g) {Wa : (α → Prop) → Prop} (ha : WX X c Γ m e1 Wa) :
    WX X c Γ m (.UnaryOp op e1 pos) (fun Q => Wa fun a => C a ∧ Q (g a)) :=
  ⟨fun _ _ k w => ha.mo _ _ (fun a w => ⟨w.1, k _ w.2⟩) w, PE.mono (pe_un ho ha.run) fun σ H Q ⟨Z, S, R, w⟩ => ⟨Z, S, R, ha.mo _ _ (fun a w v H1 ev1 R1 d1 => hd (Rg c (Mo c Z S) m) H1 v a Q (R1.new m) d1 w.1 fun z H3 sm d3 =>
    w.2 z H3 (ev1.trans (.of_same sm) fun a q => .inl q) (R1.same sm) d3) w⟩⟩
theorem px_un {op : UnaryOp} {r : V → Hp → VK → Prop} {C : α → Prop} {g : α → β} (ho : UnR X (unaryOp op) r) (hd : DUn r C g) {Pa : Prop} {a : α} (ha : WX X c Γ m e1 (Wp Pa a)) :
    WX X c Γ m (.UnaryOp op e1 pos) (Wp (Pa ∧ C a) (g a)) := (wx_un ho hd ha).imp (fun Q h => ⟨h.1.1, h.1.2, h.2⟩) mono_wp
/-- comparisons -/
theorem wx_cmp {op : CmpOp} {r : R2} {C : α → β → Prop} {g : α → β → Bool} (ho : OpR X (compareOp op) r) (hd : DOp r C g) {Wa : (α → Prop) → Prop} {Wb : (β → Prop) → Prop} (ha : WX X c Γ .any e1 Wa) (hb : WX X c Γ .any e2 Wb) (hm : behindInMarks op e2 = false) :
    WX X c Γ m (.Compare e1 [op] [e2] pos) (fun Q => Wa fun a => Wb fun b => C a b ∧ Q (g a b)) :=
  WX.nl (m' := .any) ⟨mono_two ha.mo hb.mo, PE.mono (pe_cmpR ho ha.run hb.run hm) fun σ H Q h => two_ok hd ha.mo hb.mo h⟩
theorem wt_cmp {op : CmpOp} {r : R2} {C : α → β → Prop} {g : α → β → Bool} (ho : OpR X (compareOp op) r) (hd : DOp r C g) {Wa : (α → Prop) → Prop} {Wb : (β → Prop) → Prop} (ha : WX X c Γ .any e1 Wa) (hb : WX X c Γ .any e2 Wb) (hm : behindInMarks op e2 = false) :
    WT X c Γ (.Compare e1 [op] [e2] pos) (fun Q => Wa fun a => Wb fun b => C a b ∧ Q (g a b)) :=
  ⟨mono_two ha.mo hb.mo, PT.mono (pt_cmpR ho ha.run hb.run hm) fun σ H Q ⟨Z, S, R, w⟩ => by
    have mm := mono_two (C := C) (g := g) ha.mo hb.mo
    refine two_ok (m := .any) hd ha.mo hb.mo (Q := fun x H' => ∃ k, x = .bl k ∧ Q k H') ⟨Z, S, R, ?_⟩
    refine mm (fun b => ∀ H', Evo (fa c) H H' → Rep c Z S H' σ Γ → Q b H') (fun a => ∀ v H', Evo (fa c) H H' → Rep c Z S H' σ Γ → DA (Rg c (Mo c Z S) .any) H' v (enc a) → ∃ k, v = .bl k ∧ Q k H') ?_ w
    intro k q v H' ev R' d
    cases d
    exact ⟨_, rfl, q H' ev R'⟩⟩
theorem px_cmp {op : CmpOp} {r : R2} {C : α → β → Prop} {g : α → β → Bool} (ho : OpR X (compareOp op) r) (hd : DOp r C g) {Pa Pb : Prop} {a : α} {b : β} (ha : WX X c Γ .any e1 (Wp Pa a)) (hb : WX X c Γ .any e2 (Wp Pb b)) (hm : behindInMarks op e2 = false) :
    WX X c Γ m (.Compare e1 [op] [e2] pos) (Wp (Pa ∧ Pb ∧ C a b) (g a b)) := (wx_cmp ho hd ha hb hm).imp (fun Q h => ⟨h.1.1, h.1.2.1, h.1.2.2, h.2⟩) mono_wp
theorem pt_cmp' {op : CmpOp} {r : R2} {C : α → β → Prop} {g : α → β → Bool} (ho : OpR X (compareOp op) r) (hd : DOp r C g) {Pa Pb : Prop} {a : α} {b : β} (ha : WX X c Γ .any e1 (Wp Pa a)) (hb : WX X c Γ .any e2 (Wp Pb b)) (hm : behindInMarks op e2 = false) :
    WT X c Γ (.Compare e1 [op] [e2] pos) (Wp (Pa ∧ Pb ∧ C a b) (g a b)) := (wt_cmp ho hd ha hb hm).imp (fun Q h => ⟨h.1.1, h.1.2.1, h.1.2.2, h.2⟩) mono_wp
/-- a truth value as a test -/
theorem wt_val {W : (Bool → Prop) → Prop} (h : WX X c Γ .any e W) (he : ∀ whole, isTrue e X.env whole = (do let v ← whole; standAt e.pos; holding [v] (truthy v)) := by intro _; rfl) : WT X c Γ e W :=
  ⟨h.mo, PT.mono (pt_val h.run he) fun σ H Q ⟨Z, S, R, w⟩ => ⟨Z, S, R, h.mo _ _ (fun k q v H' ev R' d => by
    cases d
    exact ⟨_, rfl, q H' ev R'⟩) w⟩⟩

/-! ### and, or, not -/
theorem wt_and1 {W : (Bool → Prop) → Prop} (h : WT X c Γ e W) : WTw X c Γ (.BoolOp .And [e] pos) W := ⟨h.mo, pw_and1 h.run⟩
theorem wt_or1 {W : (Bool → Prop) → Prop} (h : WT X c Γ e W) : WTw X c Γ (.BoolOp .Or [e] pos) W := ⟨h.mo, pw_or1 h.run⟩
theorem wt_and {W W' : (Bool → Prop) → Prop} (h : WT X c Γ e W) (h' : WTw X c Γ (.BoolOp .And (e1 :: es) pos) W') : WTw X c Γ (.BoolOp .And (e :: e1 :: es) pos) (fun Q => W fun b => if b = true then W' Q else Q false) :=
  ⟨fun Q Q' k w => h.mo _ _ (fun b w => by
      cases b with
      | true => exact h'.mo _ _ k w
      | false => exact k _ w) w, PW.mono (pw_and h.run h'.run) fun σ H Q ⟨Z, S, R, w⟩ => ⟨Z, S, R, h.mo _ _ (fun b w H1 ev1 R1 => by
    cases b with
    | true => exact ⟨Z, S, R1, h'.mo _ _ (fun k q H2 ev2 R2 => q H2 (ev1.trans ev2 fun a z => .inl z) R2) w⟩
    | false => exact w H1 ev1 R1) w⟩⟩
theorem wt_or {W W' : (Bool → Prop) → Prop} (h : WT X c Γ e W) (h' : WTw X c Γ (.BoolOp .Or (e1 :: es) pos) W') : WTw X c Γ (.BoolOp .Or (e :: e1 :: es) pos) (fun Q => W fun b => if b = true then Q true else W' Q) :=
  ⟨fun Q Q' k w => h.mo _ _ (fun b w => by
      cases b with
      | true => exact k _ w
      | false => exact h'.mo _ _ k w) w, PW.mono (pw_or h.run h'.run) fun σ H Q ⟨Z, S, R, w⟩ => ⟨Z, S, R, h.mo _ _ (fun b w H1 ev1 R1 => by
    cases b with
    | true => exact w H1 ev1 R1
    | false => exact ⟨Z, S, R1, h'.mo _ _ (fun k q H2 ev2 R2 => q H2 (ev1.trans ev2 fun a z => .inl z) R2) w⟩) w⟩⟩
theorem WTw.t {W : (Bool → Prop) → Prop} (h : WTw X c Γ e W) : WT X c Γ e W := ⟨h.mo, h.run.pt⟩
theorem wt_not {W : (Bool → Prop) → Prop} (h : WT X c Γ e W) : WT X c Γ (.UnaryOp .Not e pos) (fun Q => W fun b => Q (!b)) :=
  ⟨fun Q Q' k w => h.mo _ _ (fun b w => k _ w) w, PT.mono (pt_not h.run) fun σ H Q ⟨Z, S, R, w⟩ => ⟨Z, S, R, w⟩⟩
theorem ptw_and {P P' : Prop} {b b' : Bool} (h : WT X c Γ e (Wp P b)) (h' : WTw X c Γ (.BoolOp .And (e1 :: es) pos) (Wp P' b')) : WTw X c Γ (.BoolOp .And (e :: e1 :: es) pos) (Wp (P ∧ (b = true → P')) (b && b')) :=
  (wt_and h h').imp (fun Q q => ⟨q.1.1, by
    cases b with
    | true => rw [if_pos rfl]; exact ⟨q.1.2 rfl, q.2⟩
    | false => rw [if_neg Bool.false_ne_true]; exact q.2⟩) mono_wp
theorem ptw_or {P P' : Prop} {b b' : Bool} (h : WT X c Γ e (Wp P b)) (h' : WTw X c Γ (.BoolOp .Or (e1 :: es) pos) (Wp P' b')) : WTw X c Γ (.BoolOp .Or (e :: e1 :: es) pos) (Wp (P ∧ (b = false → P')) (b || b')) :=
  (wt_or h h').imp (fun Q q => ⟨q.1.1, by
    cases b with
    | true => rw [if_pos rfl]; exact q.2
    | false => rw [if_neg Bool.false_ne_true]; exact ⟨q.1.2 rfl, q.2⟩⟩) mono_wp
theorem pt_not' {P : Prop} {b : Bool} (h : WT X c Γ e (Wp P b)) : WT X c Γ (.UnaryOp .Not e pos) (Wp P (!b)) := (wt_not h).imp (fun Q q => q) mono_wp
/-- .. as values -/
theorem wx_one {op : BoolOp} {W : (α → Prop) → Prop} (h : WX X c Γ m e W) : WX X c Γ m (.BoolOp op [e] pos) W := ⟨h.mo, pe_one h.run⟩
theorem wx_and {W W' : (Bool → Prop) → Prop} (h : WX X c Γ .any e W) (h' : WX X c Γ .any (.BoolOp .And (e1 :: es) pos) W') : WX X c Γ m (.BoolOp .And (e :: e1 :: es) pos) (fun Q => W fun b => if b = true then W' Q else Q false) :=
  WX.nl (m' := .any) ⟨fun Q Q' k w => h.mo _ _ (fun b w => by
      cases b with
      | true => exact h'.mo _ _ k w
      | false => exact k _ w) w, PE.mono (pe_and h.run h'.run) fun σ H Q ⟨Z, S, R, w⟩ => ⟨Z, S, R, h.mo _ _ (fun b w v H1 ev1 R1 d1 => by
    cases d1
    refine ⟨_, rfl, ?_⟩
    cases b with
    | true => exact ⟨Z, S, R1, h'.mo _ _ (fun k q v H2 ev2 R2 d2 => q v H2 (ev1.trans ev2 fun a z => .inl z) R2 d2) w⟩
    | false => exact w _ H1 ev1 R1 (.bl _)) w⟩⟩
theorem wx_or {W W' : (Bool → Prop) → Prop} (h : WX X c Γ .any e W) (h' : WX X c Γ .any (.BoolOp .Or (e1 :: es) pos) W') : WX X c Γ m (.BoolOp .Or (e :: e1 :: es) pos) (fun Q => W fun b => if b = true then Q true else W' Q) :=
  WX.nl (m' := .any) ⟨fun Q Q' k w => h.mo _ _ (fun b w => by
      cases b with
      | true => exact k _ w
      | false => exact h'.mo _ _ k w) w, PE.mono (pe_or h.run h'.run) fun σ H Q ⟨Z, S, R, w⟩ => ⟨Z, S, R, h.mo _ _ (fun b w v H1 ev1 R1 d1 => by
    cases d1
    refine ⟨_, rfl, ?_⟩
    cases b with
    | true => exact w _ H1 ev1 R1 (.bl _)
    | false => exact ⟨Z, S, R1, h'.mo _ _ (fun k q v H2 ev2 R2 d2 => q v H2 (ev1.trans ev2 fun a z => .inl z) R2 d2) w⟩) w⟩⟩
theorem wx_not {W : (Bool → Prop) → Prop} (h : WX X c Γ .any e W) : WX X c Γ m (.UnaryOp .Not e pos) (fun Q => W fun b => Q (!b)) :=
  WX.nl (m' := .any) ⟨fun Q Q' k w => h.mo _ _ (fun b w => k _ w) w, PE.mono (pe_not h.run) fun σ H Q ⟨Z, S, R, w⟩ => ⟨Z, S, R, h.mo _ _ (fun b w v H1 ev1 R1 d1 => by
    cases d1
    exact ⟨_, rfl, w _ H1 ev1 R1 (.bl _)⟩) w⟩⟩
theorem px_and {P P' : Prop} {b b' : Bool} (h : WX X c Γ .any e (Wp P b)) (h' : WX X c Γ .any (.BoolOp .And (e1 :: es) pos) (Wp P' b')) : WX X c Γ m (.BoolOp .And (e :: e1 :: es) pos) (Wp (P ∧ (b = true → P')) (b && b')) :=
  (wx_and h h').imp (fun Q q => ⟨q.1.1, by
    cases b with
    | true => rw [if_pos rfl]; exact ⟨q.1.2 rfl, q.2⟩
    | false => rw [if_neg Bool.false_ne_true]; exact q.2⟩) mono_wp
theorem px_or {P P' : Prop} {b b' : Bool} (h : WX X c Γ .any e (Wp P b)) (h' : WX X c Γ .any (.BoolOp .Or (e1 :: es) pos) (Wp P' b')) : WX X c Γ m (.BoolOp .Or (e :: e1 :: es) pos) (Wp (P ∧ (b = false → P')) (b || b')) :=
  (wx_or h h').imp (fun Q q => ⟨q.1.1, by
    cases b with
    | true => rw [if_pos rfl]; exact q.2
    | false => rw [if_neg Bool.false_ne_true]; exact ⟨q.1.2 rfl, q.2⟩⟩) mono_wp
theorem px_not {P : Prop} {b : Bool} (h : WX X c Γ .any e (Wp P b)) : WX X c Γ m (.UnaryOp .Not e pos) (Wp P (!b)) := (wx_not h).imp (fun Q q => q) mono_wp
/-- a if t else b -/
theorem wx_if {Wt : (Bool → Prop) → Prop} {Wa Wb : (α → Prop) → Prop} (ht : WT X c Γ e Wt) (ha : WX X c Γ m e1 Wa) (hb : WX X c Γ m e2 Wb) : WX X c Γ m (.IfExp e e1 e2 pos) (fun Q => Wt fun b => if b = true then Wa Q else Wb Q) :=
  ⟨fun Q Q' k w => ht.mo _ _ (fun b w => by
      cases b with
      | true => exact ha.mo _ _ k w
      | false => exact hb.mo _ _ k w) w, PE.mono (pe_ifExp ht.run ha.run hb.run) fun σ H Q ⟨Z, S, R, w⟩ => ⟨Z, S, R, ht.mo _ _ (fun b w H1 ev1 R1 => by
    cases b with
    | true => exact ⟨Z, S, R1, ha.mo _ _ (fun k q v H2 ev2 R2 d2 => q v H2 (ev1.trans ev2 fun a z => .inl z) R2 d2) w⟩
    | false => exact ⟨Z, S, R1, hb.mo _ _ (fun k q v H2 ev2 R2 d2 => q v H2 (ev1.trans ev2 fun a z => .inl z) R2 d2) w⟩) w⟩⟩
theorem px_if {Pt Pa Pb : Prop} {b : Bool} {a a' : α} (ht : WT X c Γ e (Wp Pt b)) (ha : WX X c Γ m e1 (Wp Pa a)) (hb : WX X c Γ m e2 (Wp Pb a')) : WX X c Γ m (.IfExp e e1 e2 pos) (Wp (Pt ∧ (b = true → Pa) ∧ (b = false → Pb)) (if b = true then a else a')) :=
  (wx_if ht ha hb).imp (fun Q q => ⟨q.1.1, by
    cases b with
    | true => exact ⟨q.1.2.1 rfl, q.2⟩
    | false => exact ⟨q.1.2.2 rfl, q.2⟩⟩) mono_wp
end
end DL

namespace DL
open PySem PySem.Spec PyProof.Rows L2
open Enc (enc)

/-! ## equality of data -/
class EncE (α : Type) [Enc α] where
  dp : Nat
  lay : ∀ a : α, (enc a).canLay0 = true
  dep : ∀ a : α, (enc a).depth ≤ dp
  eqv : ∀ a b : α, PyData.eqv (enc a) (enc b) = true ↔ a = b
theorem shaped_enc {α : Type} [Enc α] [EncE α] (h : EncE.dp α ≤ 64) (a : α) : SeqAt.shaped (enc a) = true := by
  show ((enc a).canLay0 && decide ((enc a).depth ≤ 64)) = true
  rw [Bool.and_eq_true]
  exact ⟨EncE.lay a, decide_eq_true (Nat.le_trans (EncE.dep a) h)⟩
theorem eqv_dec {α : Type} [Enc α] [EncE α] [DecidableEq α] (a b : α) : PyData.eqv (enc a) (enc b) = decide (a = b) := by
  by_cases h : a = b
  · rw [decide_eq_true h]; exact (EncE.eqv a b).mpr h
  · rw [decide_eq_false h]
    cases e : PyData.eqv (enc a) (enc b) with
    | false => rfl
    | true => exact absurd ((EncE.eqv a b).mp e) h
instance : EncE Int := ⟨0, fun a => by simp only [enc, PyData.canLay0], fun a => by simp only [enc, PyData.depth, Nat.le_refl], fun a b => by simp only [enc, PyData.eqv, beq_iff_eq]⟩
instance : EncE Bool := ⟨0, fun a => by simp only [enc, PyData.canLay0], fun a => by simp only [enc, PyData.depth, Nat.le_refl], fun a b => by simp only [enc, PyData.eqv, beq_iff_eq]⟩
instance : EncE Unit := ⟨0, fun a => by simp only [enc, PyData.canLay0], fun a => by simp only [enc, PyData.depth, Nat.le_refl], fun a b => by simp only [enc, PyData.eqv]⟩
section
variable {α β γ δ : Type} [Enc α] [Enc β] [Enc γ] [Enc δ]
theorem lays [EncE α] : ∀ xs : List α, PyData.canLayAll0 (xs.map enc) = true
  | [] => by simp only [List.map_nil, PyData.canLayAll0]
  | x :: xs => by simp only [List.map_cons, PyData.canLayAll0, EncE.lay x, lays xs, Bool.and_true]
theorem deps [EncE α] : ∀ xs : List α, PyData.depthAll (xs.map enc) ≤ EncE.dp α
  | [] => by simp only [List.map_nil, PyData.depthAll, Nat.zero_le]
  | x :: xs => by
    have h1 := EncE.dep x
    have h2 := deps xs
    simp only [List.map_cons, PyData.depthAll]
    omega
theorem eqvs [EncE α] : ∀ xs ys : List α, PyData.eqvAll (xs.map enc) (ys.map enc) = true ↔ xs = ys
  | [], [] => by simp only [List.map_nil, PyData.eqvAll]
  | [], y :: ys => by simp only [List.map_nil, List.map_cons, PyData.eqvAll]; simp
  | x :: xs, [] => by simp only [List.map_nil, List.map_cons, PyData.eqvAll]; simp
  | x :: xs, y :: ys => by simp only [List.map_cons, PyData.eqvAll, Bool.and_eq_true, EncE.eqv x y, eqvs xs ys, List.cons.injEq]
instance [EncE α] : EncE (List α) := ⟨EncE.dp α + 1, fun a => by simp only [enc, PyData.canLay0]; exact lays a, fun a => by
    have := deps a
    simp only [enc, PyData.depth]
    exact Nat.succ_le_succ this, fun a b => by simp only [enc, PyData.eqv]; exact eqvs a b⟩
instance [EncE α] [EncE β] : EncE (α × β) := ⟨max (EncE.dp α) (EncE.dp β) + 1, fun a => by simp only [enc, PyData.canLay0, PyData.canLayAll0]; rw [EncE.lay a.1, EncE.lay a.2]; rfl, fun a => by
    have h1 := EncE.dep a.1
    have h2 := EncE.dep a.2
    simp only [enc, PyData.depth, PyData.depthAll] at *
    omega, fun a b => by
    simp only [enc, PyData.eqv, PyData.eqvAll, Bool.and_true, Bool.and_eq_true]
    rw [EncE.eqv a.1 b.1, EncE.eqv a.2 b.2, ← Prod.ext_iff]⟩
instance [EncE α] [EncE β] [EncE γ] : EncE (T3 α β γ) := ⟨max (EncE.dp α) (max (EncE.dp β) (EncE.dp γ)) + 1, fun a => by simp only [enc, PyData.canLay0, PyData.canLayAll0]; rw [EncE.lay a.1, EncE.lay a.2, EncE.lay a.3]; rfl, fun a => by
    have h1 := EncE.dep a.1
    have h2 := EncE.dep a.2
    have h3 := EncE.dep a.3
    simp only [enc, PyData.depth, PyData.depthAll] at *
    omega, fun a b => by
    simp only [enc, PyData.eqv, PyData.eqvAll, Bool.and_true, Bool.and_eq_true]
    rw [EncE.eqv a.1 b.1, EncE.eqv a.2 b.2, EncE.eqv a.3 b.3]
    cases a; cases b; simp⟩
instance [EncE α] [EncE β] [EncE γ] [EncE δ] : EncE (T4 α β γ δ) := ⟨max (EncE.dp α) (max (EncE.dp β) (max (EncE.dp γ) (EncE.dp δ))) + 1, fun a => by simp only [enc, PyData.canLay0, PyData.canLayAll0]; rw [EncE.lay a.1, EncE.lay a.2, EncE.lay a.3, EncE.lay a.4]; rfl, fun a => by
    have h1 := EncE.dep a.1
    have h2 := EncE.dep a.2
    have h3 := EncE.dep a.3
    have h4 := EncE.dep a.4
    simp only [enc, PyData.depth, PyData.depthAll] at *
    omega, fun a b => by
    simp only [enc, PyData.eqv, PyData.eqvAll, Bool.and_true, Bool.and_eq_true]
    rw [EncE.eqv a.1 b.1, EncE.eqv a.2 b.2, EncE.eqv a.3 b.3, EncE.eqv a.4 b.4]
    cases a; cases b; simp⟩
/-- an option of what is never None -/
class NotN (α : Type) [Enc α] : Prop where
  nn : ∀ a : α, PyData.eqv (enc a) .none = false ∧ PyData.eqv .none (enc a) = false
instance : NotN Int := ⟨fun a => by simp only [enc, PyData.eqv, and_self]⟩
instance : NotN (List α) := ⟨fun a => by simp only [enc, PyData.eqv, and_self]⟩
instance : NotN (α × β) := ⟨fun a => by simp only [enc, PyData.eqv, and_self]⟩
instance : NotN (T3 α β γ) := ⟨fun a => by simp only [enc, PyData.eqv, and_self]⟩
instance : NotN (T4 α β γ δ) := ⟨fun a => by simp only [enc, PyData.eqv, and_self]⟩
instance [EncE α] [NotN α] : EncE (Option α) := ⟨EncE.dp α, fun a => by
    cases a with
    | none => simp only [enc, PyData.canLay0]
    | some a => exact EncE.lay a, fun a => by
    cases a with
    | none => simp only [enc, PyData.depth, Nat.zero_le]
    | some a => exact EncE.dep a, fun a b => by
    cases a with
    | none =>
      cases b with
      | none => simp only [enc, PyData.eqv]
      | some b => simp only [enc]; rw [(NotN.nn b).2]; simp
    | some a =>
      cases b with
      | none => simp only [enc]; rw [(NotN.nn a).1]; simp
      | some b => simp only [enc]; rw [EncE.eqv a b, Option.some.injEq]⟩

/-! ## operators on data -/
variable {K : PySem.W.Frag}
theorem dop_I0 {g : Int → Int → Int} : DOp (rI0 fun i j => .int (g i j)) (fun _ _ => True) g := by
  intro A H x y a b Q _ hx hy _ k
  cases (hx : DA A H x (.int a))
  cases (hy : DA A H y (.int b))
  exact ⟨a, b, rfl, rfl, k _ H (.refl H) (.int _)⟩
theorem dop_B0 {g : Int → Int → Bool} : DOp (rI0 fun i j => .bl (g i j)) (fun _ _ => True) g := by
  intro A H x y a b Q _ hx hy _ k
  cases (hx : DA A H x (.int a))
  cases (hy : DA A H y (.int b))
  exact ⟨a, b, rfl, rfl, k _ H (.refl H) (.bl _)⟩
theorem dop_I {C : Int → Int → Prop} {g : Int → Int → Int} : DOp (rI C fun i j => .int (g i j)) C g := by
  intro A H x y a b Q _ hx hy h k
  cases (hx : DA A H x (.int a))
  cases (hy : DA A H y (.int b))
  exact ⟨a, b, rfl, rfl, h, k _ H (.refl H) (.int _)⟩
theorem dun_I {g : Int → Int} : DUn (rU fun i => .int (g i)) (fun _ => True) g := by
  intro A H x a Q _ hx _ k
  cases (hx : DA A H x (.int a))
  exact ⟨a, rfl, k _ H (.refl H) (.int _)⟩
theorem dop_eq [EncE α] [DecidableEq α] (h : EncE.dp α ≤ 64 := by decide) : DOp (rEqD K) (fun _ _ => True) (fun a b : α => decide (a = b)) := by
  intro A H x y a b Q _ hx hy _ k
  exact ⟨enc a, enc b, hx.dp, hy.dp, shaped_enc h a, shaped_enc h b, by rw [eqv_dec]; exact k _ H (.refl H) (.bl _)⟩
theorem dop_ne [EncE α] [DecidableEq α] (h : EncE.dp α ≤ 64 := by decide) : DOp (rNeD K) (fun _ _ => True) (fun a b : α => !decide (a = b)) := by
  intro A H x y a b Q _ hx hy _ k
  exact ⟨enc a, enc b, hx.dp, hy.dp, shaped_enc h a, shaped_enc h b, by rw [eqv_dec]; exact k _ H (.refl H) (.bl _)⟩
theorem dop_eqP : DOp (rEqD K) (fun a b => SeqAt.shaped (enc a) = true ∧ SeqAt.shaped (enc b) = true) (fun (a : α) (b : β) => PyData.eqv (enc a) (enc b)) := by
  intro A H x y a b Q _ hx hy s k
  exact ⟨enc a, enc b, hx.dp, hy.dp, s.1, s.2, k _ H (.refl H) (.bl _)⟩
theorem dop_neP : DOp (rNeD K) (fun a b => SeqAt.shaped (enc a) = true ∧ SeqAt.shaped (enc b) = true) (fun (a : α) (b : β) => !PyData.eqv (enc a) (enc b)) := by
  intro A H x y a b Q _ hx hy s k
  exact ⟨enc a, enc b, hx.dp, hy.dp, s.1, s.2, k _ H (.refl H) (.bl _)⟩
/-- texts -/
theorem dop_eqS : DOp rEq (fun _ _ => True) (fun a b : Str => decide (a = b)) := by
  intro A H x y a b Q _ hx hy _ k
  cases (hx : DA A H x (.str a))
  cases (hy : DA A H y (.str b))
  refine ⟨rfl, ?_⟩
  rw [show decide (V.str a = V.str b) = decide (a = b) from decide_eq_decide.mpr ⟨fun h => V.str.inj h, fun h => congrArg _ h⟩]
  exact k _ H (.refl H) (.bl _)
theorem dop_neS : DOp rNe (fun _ _ => True) (fun a b : Str => !decide (a = b)) := by
  intro A H x y a b Q _ hx hy _ k
  cases (hx : DA A H x (.str a))
  cases (hy : DA A H y (.str b))
  refine ⟨rfl, ?_⟩
  rw [show decide (V.str a = V.str b) = decide (a = b) from decide_eq_decide.mpr ⟨fun h => V.str.inj h, fun h => congrArg _ h⟩]
  exact k _ H (.refl H) (.bl _)
theorem any_eqv [EncE α] [DecidableEq α] (a : α) : ∀ xs : List α, ((xs.map enc).any fun z => PyData.eqv z (enc a)) = decide (a ∈ xs)
  | [] => by simp
  | x :: xs => by
    rw [List.map_cons, List.any_cons, any_eqv a xs, eqv_dec]
    by_cases h : x = a
    · subst h; simp
    · have h' : ¬ a = x := fun e => h e.symm
      rw [decide_eq_false h, Bool.false_or]
      exact decide_eq_decide.mpr (by rw [List.mem_cons]; simp [h'])
theorem dop_in [EncE α] [DecidableEq α] (h : EncE.dp α + 1 ≤ 64 := by decide) : DOp (rInD K) (fun _ _ => True) (fun (a : α) (b : List α) => decide (a ∈ b)) := by
  intro A H x y a b Q _ hx hy _ k
  exact ⟨enc a, b.map enc, hx.dp, hy.dp, shaped_enc (by omega) a, shaped_enc (α := List α) h b, by rw [any_eqv]; exact k _ H (.refl H) (.bl _)⟩
theorem dop_nin [EncE α] [DecidableEq α] (h : EncE.dp α + 1 ≤ 64 := by decide) : DOp (rNotInD K) (fun _ _ => True) (fun (a : α) (b : List α) => !decide (a ∈ b)) := by
  intro A H x y a b Q _ hx hy _ k
  exact ⟨enc a, b.map enc, hx.dp, hy.dp, shaped_enc (by omega) a, shaped_enc (α := List α) h b, by rw [any_eqv]; exact k _ H (.refl H) (.bl _)⟩
theorem DA.tupI {A : Rgn} {H : Hp} {y : V} {p : Int × Int} (h : DA A H y (enc p)) : ∃ t, y = .ref t ∧ H t = some (.tup [.int p.1, .int p.2]) := by
  cases (h : DA A H y (.tuple [.int p.1, .int p.2])) with
  | tup r z q =>
    cases q with
    | cons q1 q2 =>
      cases q2 with
      | cons q2 q3 =>
        cases q3
        cases q1
        cases q2
        exact ⟨_, rfl, r⟩
theorem eqV_int (a b : Int) : eqV (.int a) (.int b) = decide (a = b) := by
  by_cases h : a = b
  · subst h; simp [eqV]
  · simp [eqV, h]
theorem dop_inT : DOp (rIn K false) (fun _ _ => True) (fun (a : Int) (p : Int × Int) => decide (a = p.1 ∨ a = p.2)) := by
  intro A H x y a p Q _ hx hy _ k
  cases (hx : DA A H x (.int a))
  obtain ⟨t, rfl, r⟩ := hy.tupI
  refine ⟨t, _, rfl, .inr (SqT.of r), rfl, rfl, ?_⟩
  have e : inV (.int a) [.int p.1, .int p.2] = decide (a = p.1 ∨ a = p.2) := by
    simp only [inV, List.any_cons, List.any_nil, Bool.or_false, eqV_int]
    rw [← Bool.decide_or]
    exact decide_eq_decide.mpr ⟨fun h => h.imp Eq.symm Eq.symm, fun h => h.imp Eq.symm Eq.symm⟩
  simp only [Bool.false_eq_true, if_false]
  rw [e]
  exact k _ H (.refl H) (.bl _)
theorem dop_ninT : DOp (rIn K true) (fun _ _ => True) (fun (a : Int) (p : Int × Int) => !decide (a = p.1 ∨ a = p.2)) := by
  intro A H x y a p Q _ hx hy _ k
  cases (hx : DA A H x (.int a))
  obtain ⟨t, rfl, r⟩ := hy.tupI
  refine ⟨t, _, rfl, .inr (SqT.of r), rfl, rfl, ?_⟩
  have e : inV (.int a) [.int p.1, .int p.2] = decide (a = p.1 ∨ a = p.2) := by
    simp only [inV, List.any_cons, List.any_nil, Bool.or_false, eqV_int]
    rw [← Bool.decide_or]
    exact decide_eq_decide.mpr ⟨fun h => h.imp Eq.symm Eq.symm, fun h => h.imp Eq.symm Eq.symm⟩
  simp only [if_true]
  rw [e]
  exact k _ H (.refl H) (.bl _)
/-- lists: +, * -/
theorem dop_cat : DOp rCat (fun a b => a.length + b.length ≤ sizeLine) (fun (a b : List α) => a ++ b) := by
  intro A H x y a b Q new hx hy h k
  cases (hx : DA A H x (.list (a.map enc))) with
  | @lst l xs _ al r z q =>
    cases (hy : DA A H y (.list (b.map enc))) with
    | @lst l' ys _ al' r' z' q' =>
      have e1 : xs.length = a.length := by rw [q.length, List.length_map]
      have e2 : ys.length = b.length := by rw [q'.length, List.length_map]
      refine ⟨l, l', xs, ys, rfl, rfl, r, r', by omega, fun p np => k _ _ (same_new np) ?_⟩
      have hs : DAs A (upd H p (.lst (xs ++ ys))) (xs ++ ys) ((a ++ b).map enc) := by
        rw [List.map_append]
        exact (q.append q').evo (M := fun _ => False) (.of_same (same_new np)) (fun _ _ z => z) fun _ _ _ z => z
      exact .lst (new p np) upd_same (by rw [List.length_append]; omega) hs
theorem flat_rep {γ : Type} {x : γ} (n : Nat) : (List.replicate n [x]).flatten = List.replicate n x := by
  induction n with
  | zero => rfl
  | succ n ih => rw [List.replicate_succ, List.flatten_cons, ih, List.replicate_succ]; rfl
theorem DAs.replicate {A : Rgn} {H : Hp} {v : V} {d : PyData} (h : DA A H v d) : ∀ n : Nat, DAs A H (List.replicate n v) (List.replicate n d)
  | 0 => .nil
  | n + 1 => .cons h (DAs.replicate h n)
/-- [x] * n -/
theorem dop_rep : DOp rRep (fun (a : List α) (n : Int) => a.length = 1 ∧ -(2 ^ 63) ≤ n ∧ n ≤ sizeLine) (fun (a : List α) (n : Int) => (a.map fun x => List.replicate n.toNat x).flatten) := by
  intro A H x y a n Q new hx hy h k
  cases (hy : DA A H y (.int n))
  cases (hx : DA A H x (.list (a.map enc))) with
  | @lst l xs _ al r z q =>
    have e1 : xs.length = a.length := by rw [q.length, List.length_map]
    obtain ⟨h1, h2, h3⟩ := h
    match a, xs, e1, h1 with
    | [d], [v], _, _ =>
      have hz : (sizeLine : Nat) < 2 ^ 63 := line63
      cases q with
      | cons q1 _ =>
      refine ⟨l, n, [v], rfl, rfl, r, h2, by omega, by simp only [List.length_singleton, Nat.one_mul]; omega, fun p np => k _ _ (same_new np) ?_⟩
      have hs : DAs A (upd H p (.lst (List.replicate n.toNat v))) (List.replicate n.toNat v) ((List.replicate n.toNat d).map enc) := by
        rw [List.map_replicate]
        exact (DAs.replicate q1 n.toNat).evo (M := fun _ => False) (.of_same (same_new np)) (fun _ _ z => z) fun _ _ _ z => z
      rw [flat_rep]
      have e : (([d] : List α).map fun x => List.replicate n.toNat x).flatten = List.replicate n.toNat d := by simp
      show DA A _ _ (enc ((([d] : List α).map fun x => List.replicate n.toNat x).flatten))
      rw [e]
      exact .lst (new p np) upd_same (by rw [List.length_replicate]; omega) hs
/-! ### places -/
def cIx (xs : List α) (i : Int) : Prop := 0 ≤ i ∧ i < xs.length
def gIx [Inhabited α] (xs : List α) (i : Int) : α := xs.getD i.toNat default
theorem atI_in {γ : Type} {xs : List γ} {i : Int} (h0 : 0 ≤ i) (h : i < xs.length) : ∃ v, xs[i.toNat]? = some v ∧ atI xs i = some v := by
  have hj : i.toNat < xs.length := by omega
  refine ⟨xs[i.toNat], List.getElem?_eq_getElem hj, ?_⟩
  have := atI_nat (List.getElem?_eq_getElem hj)
  rwa [Int.toNat_of_nonneg h0] at this
theorem dop_ix [Inhabited α] : DOp (rIxL K) cIx (fun (xs : List α) (i : Int) => gIx xs i) := by
  intro A H x y xs i Q new hx hy h k
  cases (hy : DA A H y (.int i))
  cases (hx : DA A H x (.list (xs.map enc))) with
  | @lst l vs _ al r z q =>
    have e1 : vs.length = xs.length := by rw [q.length, List.length_map]
    obtain ⟨v, h1, h2⟩ := atI_in (xs := vs) h.1 (by rw [e1]; exact h.2)
    obtain ⟨d, h3, h4⟩ := q.get h1
    refine ⟨l, vs, i, v, rfl, rfl, SqL.of r, h2, k v H (.refl H) ?_⟩
    rw [List.getElem?_map] at h3
    cases e : xs[i.toNat]? with
    | none => rw [e] at h3; cases h3
    | some z =>
      rw [e] at h3
      cases h3
      show DA A H v (enc (xs.getD i.toNat default))
      rw [List.getD_eq_getElem?_getD, e]
      exact h4
/-- an index of any sign -/
def cIxA (xs : List α) (i : Int) : Prop := -(xs.length : Int) ≤ i ∧ i < xs.length
def gIxA [Inhabited α] (xs : List α) (i : Int) : α := xs.getD (if 0 ≤ i then i.toNat else (i + xs.length).toNat) default
theorem dop_ixA [Inhabited α] : DOp (rIxL K) cIxA (fun (xs : List α) (i : Int) => gIxA xs i) := by
  intro A H x y xs i Q new hx hy h k
  cases (hy : DA A H y (.int i))
  cases (hx : DA A H x (.list (xs.map enc))) with
  | @lst l vs _ al r z q =>
    have e1 : vs.length = xs.length := by rw [q.length, List.length_map]
    obtain ⟨j, hj, hl⟩ : ∃ j, ixN vs.length i = some j ∧ j = (if 0 ≤ i then i.toNat else (i + xs.length).toNat) := by
      unfold ixN
      by_cases h0 : 0 ≤ i
      · rw [if_pos h0, if_pos (by rw [e1]; exact h.2), if_pos h0]; exact ⟨_, rfl, rfl⟩
      · rw [if_neg h0, if_pos (by rw [e1]; exact h.1), if_neg h0, e1]; exact ⟨_, rfl, rfl⟩
    have hj' := (ixN_seq hj).2.1
    have h2 : atI vs i = some vs[j] := by unfold atI; rw [hj]; exact List.getElem?_eq_getElem hj'
    obtain ⟨d, h3, h4⟩ := q.get (List.getElem?_eq_getElem hj')
    refine ⟨l, vs, i, _, rfl, rfl, SqL.of r, h2, k _ H (.refl H) ?_⟩
    rw [List.getElem?_map] at h3
    cases e : xs[j]? with
    | none => rw [e] at h3; cases h3
    | some z =>
      rw [e] at h3
      cases h3
      show DA A H _ (enc (xs.getD (if 0 ≤ i then i.toNat else (i + xs.length).toNat) default))
      rw [← hl, List.getD_eq_getElem?_getD, e]
      exact h4
/-- xs[-1], .. -/
def cIxN (xs : List α) (i : Int) : Prop := -(xs.length : Int) ≤ i ∧ i < 0
def gIxN [Inhabited α] (xs : List α) (i : Int) : α := xs.getD (i + xs.length).toNat default
theorem dop_ixN [Inhabited α] : DOp (rIxL K) cIxN (fun (xs : List α) (i : Int) => gIxN xs i) := by
  intro A H x y xs i Q new hx hy h k
  refine dop_ixA (K := K) A H x y xs i Q new hx hy ⟨h.1, by have := h.2; omega⟩ fun v H' s d => k v H' s ?_
  have e : gIxA xs i = gIxN xs i := by
    unfold gIxA gIxN
    rw [if_neg (by have := h.2; omega)]
  show DA A H' v (enc (gIxN xs i))
  rw [← e]
  exact d
/-- t[0], t[1] of pairs, of tuples of three and four -/
theorem dop_fst : DOp (rIxT K) (fun _ i => i = 0) (fun (p : α × β) (_ : Int) => p.1) := by
  intro A H x y p i Q new hx hy h k
  subst h
  cases (hy : DA A H y (.int 0))
  cases (hx : DA A H x (.tuple [enc p.1, enc p.2])) with
  | @tup t vs _ r z q =>
    obtain ⟨v, h1, h2⟩ := q.get' (i := 0) rfl
    exact ⟨t, vs, 0, v, rfl, rfl, SqT.of r, atI_nat (j := 0) h1, k v H (.refl H) h2⟩
theorem dop_snd : DOp (rIxT K) (fun _ i => i = 1) (fun (p : α × β) (_ : Int) => p.2) := by
  intro A H x y p i Q new hx hy h k
  subst h
  cases (hy : DA A H y (.int 1))
  cases (hx : DA A H x (.tuple [enc p.1, enc p.2])) with
  | @tup t vs _ r z q =>
    obtain ⟨v, h1, h2⟩ := q.get' (i := 1) rfl
    exact ⟨t, vs, 1, v, rfl, rfl, SqT.of r, atI_nat (j := 1) h1, k v H (.refl H) h2⟩
theorem dop_3a : DOp (rIxT K) (fun _ i => i = 0) (fun (p : T3 α β γ) (_ : Int) => p.a) := by
  intro A H x y p i Q new hx hy h k
  subst h
  cases (hy : DA A H y (.int 0))
  cases (hx : DA A H x (.tuple [enc p.a, enc p.b, enc p.c])) with
  | @tup t vs _ r z q =>
    obtain ⟨v, h1, h2⟩ := q.get' (i := 0) rfl
    exact ⟨t, vs, 0, v, rfl, rfl, SqT.of r, atI_nat (j := 0) h1, k v H (.refl H) h2⟩
theorem dop_3b : DOp (rIxT K) (fun _ i => i = 1) (fun (p : T3 α β γ) (_ : Int) => p.b) := by
  intro A H x y p i Q new hx hy h k
  subst h
  cases (hy : DA A H y (.int 1))
  cases (hx : DA A H x (.tuple [enc p.a, enc p.b, enc p.c])) with
  | @tup t vs _ r z q =>
    obtain ⟨v, h1, h2⟩ := q.get' (i := 1) rfl
    exact ⟨t, vs, 1, v, rfl, rfl, SqT.of r, atI_nat (j := 1) h1, k v H (.refl H) h2⟩
theorem dop_3c : DOp (rIxT K) (fun _ i => i = 2) (fun (p : T3 α β γ) (_ : Int) => p.c) := by
  intro A H x y p i Q new hx hy h k
  subst h
  cases (hy : DA A H y (.int 2))
  cases (hx : DA A H x (.tuple [enc p.a, enc p.b, enc p.c])) with
  | @tup t vs _ r z q =>
    obtain ⟨v, h1, h2⟩ := q.get' (i := 2) rfl
    exact ⟨t, vs, 2, v, rfl, rfl, SqT.of r, atI_nat (j := 2) h1, k v H (.refl H) h2⟩
variable {X : Cx} {c : Cf} {Γ : List LD} {m m' m1 m2 : Rk} {e e1 e2 e3 e4 : Expr} {es : List Expr} {pos : Pos}
theorem wx_ix {r : R2} {C : α → β → Prop} {g : α → β → γ} (hr : IxR X r) (hd : DOp r C g) {Wa : (α → Prop) → Prop} {Wb : (β → Prop) → Prop} (ha : WX X c Γ m e1 Wa) (hb : WX X c Γ m e2 Wb) (hs : PlainIx e2) :
    WX X c Γ m (.Subscript e1 e2 pos) (fun Q => Wa fun a => Wb fun b => C a b ∧ Q (g a b)) :=
  ⟨mono_two ha.mo hb.mo, PE.mono (pe_ix hr ha.run hb.run hs) fun σ H Q h => two_ok hd ha.mo hb.mo h⟩
theorem px_ix {r : R2} {C : α → β → Prop} {g : α → β → γ} (hr : IxR X r) (hd : DOp r C g) {Pa Pb : Prop} {a : α} {b : β} (ha : WX X c Γ m e1 (Wp Pa a)) (hb : WX X c Γ m e2 (Wp Pb b)) (hs : PlainIx e2) :
    WX X c Γ m (.Subscript e1 e2 pos) (Wp (Pa ∧ Pb ∧ C a b) (g a b)) := (wx_ix hr hd ha hb hs).imp (fun Q h => ⟨h.1.1, h.1.2.1, h.1.2.2, h.2⟩) mono_wp
/-- t[0]: a written place of a tuple -/
theorem px_tix {r : R2} {z : Int} {g : α → Int → γ} (hr : IxR X r) (hd : DOp r (fun _ i => i = z) g) {Pa : Prop} {a : α} (ha : WX X c Γ m e1 (Wp Pa a)) {j : Nat} {p2 : Pos} :
    WX X c Γ m (.Subscript e1 (.Constant (.int z) j p2) pos) (Wp Pa (g a z)) := (px_ix hr hd ha wx_int fun _ _ => rfl).imp (fun Q h => ⟨⟨h.1, trivial, rfl⟩, h.2⟩) mono_wp
theorem wx_tix {r : R2} {z : Int} {g : α → Int → γ} (hr : IxR X r) (hd : DOp r (fun _ i => i = z) g) {Wa : (α → Prop) → Prop} (ha : WX X c Γ m e1 Wa) {j : Nat} {p2 : Pos} :
    WX X c Γ m (.Subscript e1 (.Constant (.int z) j p2) pos) (fun Q => Wa fun a => Q (g a z)) := (wx_ix hr hd ha wx_int fun _ _ => rfl).imp (fun Q h => ha.mo _ _ (fun a q => ⟨trivial, rfl, q⟩) h) fun _ _ k w => ha.mo _ _ (fun a q => k _ q) w
end
end DL

namespace DL
open PySem PySem.Spec PyProof.Rows L2
open Enc (enc)
section
variable {α β γ δ ρ : Type} [Enc α] [Enc β] [Enc γ] [Enc δ] [Enc ρ]
variable {X : Cx} {c : Cf} {Γ : List LD} {m m' m1 m2 : Rk} {e e1 e2 e3 e4 : Expr} {es : List Expr} {pos p p2 : Pos}

/-! ## arguments, displays -/
theorem wa_nil : WA X c Γ m [] (fun Q => Q []) := ⟨fun _ _ k q => k _ q, PA.mono pa_nil fun σ H Q ⟨Z, S, R, w⟩ => w [] H (.refl _ _) R .nil⟩
theorem wa_cons {Wa : (α → Prop) → Prop} {W : (List PyData → Prop) → Prop} (ha : WX X c Γ m e Wa) (h : WA X c Γ m es W) (hs : starEach (e :: es) X.env = (false, eval e X.env) :: starEach es X.env := by rfl) :
    WA X c Γ m (e :: es) (fun Q => Wa fun a => W fun ds => Q (enc a :: ds)) :=
  ⟨fun _ _ k w => ha.mo _ _ (fun a w => h.mo _ _ (fun ds q => k _ q) w) w, PA.mono (pa_cons ha.run h.run hs) fun σ H Q ⟨Z, S, R, w⟩ => ⟨Z, S, R, ha.mo _ _ (fun a w v H1 ev1 R1 d1 => ⟨Z, S, R1, h.mo _ _ (fun ds q vs H2 ev2 R2 d2 =>
    q _ H2 (ev1.trans ev2 fun a z => .inl z) R2 (.cons (d1.evo ev2 (rg_nfa (fun a => mo_fa) m) fun _ _ _ z => z) d2)) w⟩) w⟩⟩
theorem wx_tupA {W : (List PyData → Prop) → Prop} (h : WA X c Γ m es W) {W' : (α → Prop) → Prop} (mo : Mono W') (k : ∀ Q : α → Prop, W' Q → W fun ds => ds.length ≤ sizeLine ∧ ∃ a : α, enc a = .tuple ds ∧ Q a) {j : Nat} : WX X c Γ m (.Tuple es j pos) W' :=
  ⟨mo, PE.mono (pe_tup h.run) fun σ H Q ⟨Z, S, R, w⟩ => ⟨Z, S, R, h.mo _ _ (fun ds ⟨z, a, ea, q⟩ vs H1 ev1 R1 d1 => ⟨by rw [d1.length]; exact z, fun p np => q _ _ (ev1.trans (.of_same (same_new np)) fun a z => .inl z) (R1.same (same_new np)) (by
    rw [ea]
    exact .tup upd_same (by rw [d1.length]; exact z) (d1.evo (M := fun _ => False) (.of_same (same_new np)) (fun _ _ z => z) fun _ _ _ z => z))⟩) (k _ w)⟩⟩
theorem le_line {n : Nat} (h : n ≤ 100) : n ≤ sizeLine := Nat.le_trans h (by decide)
theorem wx_pair {Wa : (α → Prop) → Prop} {Wb : (β → Prop) → Prop} (ha : WX X c Γ m e1 Wa) (hb : WX X c Γ m e2 Wb) {j : Nat} (s1 : starEach [e1, e2] X.env = (false, eval e1 X.env) :: starEach [e2] X.env := by rfl) (s2 : starEach [e2] X.env = (false, eval e2 X.env) :: starEach [] X.env := by rfl) :
    WX X c Γ m (.Tuple [e1, e2] j pos) (fun Q => Wa fun a => Wb fun b => Q (a, b)) :=
  wx_tupA (W' := fun Q => Wa fun a => Wb fun b => Q (a, b)) (wa_cons ha (wa_cons hb wa_nil s2) s1) (fun _ _ k w => ha.mo _ _ (fun a w => hb.mo _ _ (fun b q => k _ q) w) w) fun Q w => ha.mo _ _ (fun a w => hb.mo _ _ (fun b q => ⟨le_line (by show 2 ≤ 100; decide), (a, b), rfl, q⟩) w) w
theorem px_pair {Pa Pb : Prop} {a : α} {b : β} (ha : WX X c Γ m e1 (Wp Pa a)) (hb : WX X c Γ m e2 (Wp Pb b)) {j : Nat} (s1 : starEach [e1, e2] X.env = (false, eval e1 X.env) :: starEach [e2] X.env := by rfl) (s2 : starEach [e2] X.env = (false, eval e2 X.env) :: starEach [] X.env := by rfl) :
    WX X c Γ m (.Tuple [e1, e2] j pos) (Wp (Pa ∧ Pb) (a, b)) := (wx_pair ha hb s1 s2).imp (fun Q q => ⟨q.1.1, q.1.2, q.2⟩) mono_wp
theorem wx_t3 {Wa : (α → Prop) → Prop} {Wb : (β → Prop) → Prop} {Wc : (γ → Prop) → Prop} (ha : WX X c Γ m e1 Wa) (hb : WX X c Γ m e2 Wb) (hc : WX X c Γ m e3 Wc) {j : Nat} (s1 : starEach [e1, e2, e3] X.env = (false, eval e1 X.env) :: starEach [e2, e3] X.env := by rfl)
    (s2 : starEach [e2, e3] X.env = (false, eval e2 X.env) :: starEach [e3] X.env := by rfl) (s3 : starEach [e3] X.env = (false, eval e3 X.env) :: starEach [] X.env := by rfl) :
    WX X c Γ m (.Tuple [e1, e2, e3] j pos) (fun Q => Wa fun a => Wb fun b => Wc fun d => Q (T3.mk a b d)) :=
  wx_tupA (W' := fun Q => Wa fun a => Wb fun b => Wc fun d => Q (T3.mk a b d)) (wa_cons ha (wa_cons hb (wa_cons hc wa_nil s3) s2) s1) (fun _ _ k w => ha.mo _ _ (fun a w => hb.mo _ _ (fun b w => hc.mo _ _ (fun d q => k _ q) w) w) w)
    fun Q w => ha.mo _ _ (fun a w => hb.mo _ _ (fun b w => hc.mo _ _ (fun d q => ⟨le_line (by show 3 ≤ 100; decide), ⟨a, b, d⟩, rfl, q⟩) w) w) w
theorem px_t3 {Pa Pb Pc : Prop} {a : α} {b : β} {d : γ} (ha : WX X c Γ m e1 (Wp Pa a)) (hb : WX X c Γ m e2 (Wp Pb b)) (hc : WX X c Γ m e3 (Wp Pc d)) {j : Nat} (s1 : starEach [e1, e2, e3] X.env = (false, eval e1 X.env) :: starEach [e2, e3] X.env := by rfl)
    (s2 : starEach [e2, e3] X.env = (false, eval e2 X.env) :: starEach [e3] X.env := by rfl) (s3 : starEach [e3] X.env = (false, eval e3 X.env) :: starEach [] X.env := by rfl) :
    WX X c Γ m (.Tuple [e1, e2, e3] j pos) (Wp (Pa ∧ Pb ∧ Pc) (T3.mk a b d)) := (wx_t3 ha hb hc s1 s2 s3).imp (fun Q q => ⟨q.1.1, q.1.2.1, q.1.2.2, q.2⟩) mono_wp
theorem wx_t4 {Wa : (α → Prop) → Prop} {Wb : (β → Prop) → Prop} {Wc : (γ → Prop) → Prop} {Wd : (δ → Prop) → Prop} (ha : WX X c Γ m e1 Wa) (hb : WX X c Γ m e2 Wb) (hc : WX X c Γ m e3 Wc) (hd : WX X c Γ m e4 Wd) {j : Nat}
    (s1 : starEach [e1, e2, e3, e4] X.env = (false, eval e1 X.env) :: starEach [e2, e3, e4] X.env := by rfl)
    (s2 : starEach [e2, e3, e4] X.env = (false, eval e2 X.env) :: starEach [e3, e4] X.env := by rfl) (s3 : starEach [e3, e4] X.env = (false, eval e3 X.env) :: starEach [e4] X.env := by rfl) (s4 : starEach [e4] X.env = (false, eval e4 X.env) :: starEach [] X.env := by rfl) :
    WX X c Γ m (.Tuple [e1, e2, e3, e4] j pos) (fun Q => Wa fun a => Wb fun b => Wc fun d => Wd fun z => Q (T4.mk a b d z)) :=
  wx_tupA (W' := fun Q => Wa fun a => Wb fun b => Wc fun d => Wd fun z => Q (T4.mk a b d z)) (wa_cons ha (wa_cons hb (wa_cons hc (wa_cons hd wa_nil s4) s3) s2) s1) (fun _ _ k w => ha.mo _ _ (fun a w => hb.mo _ _ (fun b w => hc.mo _ _ (fun d w => hd.mo _ _ (fun z q => k _ q) w) w) w) w)
    fun Q w => ha.mo _ _ (fun a w => hb.mo _ _ (fun b w => hc.mo _ _ (fun d w => hd.mo _ _ (fun z q => ⟨le_line (by show 4 ≤ 100; decide), ⟨a, b, d, z⟩, rfl, q⟩) w) w) w) w
theorem px_t4 {Pa Pb Pc Pd : Prop} {a : α} {b : β} {d : γ} {z : δ} (ha : WX X c Γ m e1 (Wp Pa a)) (hb : WX X c Γ m e2 (Wp Pb b)) (hc : WX X c Γ m e3 (Wp Pc d)) (hd : WX X c Γ m e4 (Wp Pd z)) {j : Nat}
    (s1 : starEach [e1, e2, e3, e4] X.env = (false, eval e1 X.env) :: starEach [e2, e3, e4] X.env := by rfl)
    (s2 : starEach [e2, e3, e4] X.env = (false, eval e2 X.env) :: starEach [e3, e4] X.env := by rfl) (s3 : starEach [e3, e4] X.env = (false, eval e3 X.env) :: starEach [e4] X.env := by rfl) (s4 : starEach [e4] X.env = (false, eval e4 X.env) :: starEach [] X.env := by rfl) :
    WX X c Γ m (.Tuple [e1, e2, e3, e4] j pos) (Wp (Pa ∧ Pb ∧ Pc ∧ Pd) (T4.mk a b d z)) := (wx_t4 ha hb hc hd s1 s2 s3 s4).imp (fun Q q => ⟨q.1.1, q.1.2.1, q.1.2.2.1, q.1.2.2.2, q.2⟩) mono_wp
/-- a list's items -/
structure WL (X : Cx) (c : Cf) (Γ : List LD) (m : Rk) (es : List Expr) (W : (List α → Prop) → Prop) : Prop where
  mo : Mono W
  ln : ∀ Q, W Q → W fun xs => xs.length = es.length ∧ Q xs
  run : PA X es (tWA c Γ m fun Q => W fun xs => Q (xs.map enc))
theorem wl_nil : WL X c Γ m [] (Wp True ([] : List α)) := ⟨mono_wp, fun Q q => ⟨trivial, rfl, q.2⟩, PA.mono pa_nil fun σ H Q ⟨Z, S, R, _, w⟩ => w [] H (.refl _ _) R .nil⟩
theorem wl_cons {Wa : (α → Prop) → Prop} {W : (List α → Prop) → Prop} (ha : WX X c Γ m e Wa) (h : WL X c Γ m es W) (hs : starEach (e :: es) X.env = (false, eval e X.env) :: starEach es X.env := by rfl) :
    WL X c Γ m (e :: es) (fun Q => Wa fun a => W fun ds => Q (a :: ds)) :=
  ⟨fun _ _ k w => ha.mo _ _ (fun a w => h.mo _ _ (fun ds q => k _ q) w) w, fun Q w => ha.mo _ _ (fun a w => h.mo _ _ (fun ds q => ⟨by rw [List.length_cons, List.length_cons, q.1], q.2⟩) (h.ln _ w)) w,
    PA.mono (wa_cons (W := fun Q => W fun xs => Q (xs.map enc)) ha ⟨fun _ _ k w => h.mo _ _ (fun xs q => k _ q) w, h.run⟩ hs).run fun σ H Q ⟨Z, S, R, w⟩ => ⟨Z, S, R, w⟩⟩
theorem pl_cons {Pa P : Prop} {a : α} {as : List α} (ha : WX X c Γ m e (Wp Pa a)) (h : WL X c Γ m es (Wp P as)) (hs : starEach (e :: es) X.env = (false, eval e X.env) :: starEach es X.env := by rfl) : WL X c Γ m (e :: es) (Wp (Pa ∧ P) (a :: as)) := by
  have q := wl_cons ha h hs
  exact ⟨mono_wp, fun Q z => by
    obtain ⟨h1, h2, h3⟩ := h.ln (fun _ => True) ⟨z.1.2, trivial⟩
    exact ⟨z.1, by rw [List.length_cons, List.length_cons, h2], z.2⟩, PA.mono q.run fun σ H Q ⟨Z, S, R, w⟩ => ⟨Z, S, R, w.1.1, w.1.2, w.2⟩⟩
/-- [..]: a new list -/
def tN (c : Cf) (Γ : List LD) (m : Rk) (W : (List α → Prop) → Prop) : TE := fun σ H Q => ∃ Z S, Rep c Z S H σ Γ ∧ W fun xs => ∀ l vs H', Evo (fa c) H H' → Rep c Z S H' σ Γ → H l = none → H' l = some (.lst vs) → vs.length ≤ sizeLine →
  DAs (fun a => Rg c (Mo c Z S) m a ∧ a ≠ l) H' vs (xs.map enc) → Q (.ref l) H'
def WN (X : Cx) (c : Cf) (Γ : List LD) (m : Rk) (e : Expr) (W : (List α → Prop) → Prop) : Prop := Mono W ∧ PE X e (tN c Γ m W)
theorem tN_tW {W : (List α → Prop) → Prop} (mo : Mono W) {σ : L2.St} {H : Hp} {Q : VK} (h : tW c Γ m W σ H Q) : tN c Γ m W σ H Q := by
  obtain ⟨Z, S, R, w⟩ := h
  exact ⟨Z, S, R, mo _ _ (fun xs q l vs H' ev R' n r z d => q _ H' ev R' (.lst (R.new m l n) r z (DAs.map (fun a xs ha r => ⟨ha.1, r⟩) (fun a xs r => r) _ d))) w⟩
theorem das_ne {A : Rgn} {H : Hp} {l : Addr} (n : H l = none) {vs : List V} {ds : List PyData} (h : DAs A H vs ds) : DAs (fun a => A a ∧ a ≠ l) H vs ds := DAs.map (fun a xs ha r => ⟨⟨ha, ne_of_none r n⟩, r⟩) (fun _ _ r => r) _ h
theorem WN.wx {W : (List α → Prop) → Prop} (h : WN X c Γ m e W) : WX X c Γ m e W :=
  ⟨h.1, PE.mono h.2 fun σ H Q ⟨Z, S, R, w⟩ => ⟨Z, S, R, h.1 _ _ (fun xs q l vs H' ev R' n r z d => q _ H' ev R' (.lst (R.new m l n) r z (DAs.map (fun a xs ha r => ⟨ha.1, r⟩) (fun a xs r => r) _ d))) w⟩⟩
theorem wn_lst {W : (List α → Prop) → Prop} (h : WL X c Γ m es W) (hz : es.length ≤ sizeLine := by decide) : WN X c Γ m (.List es pos) W :=
  ⟨h.mo, PE.mono (pe_lst h.run) fun σ H Q ⟨Z, S, R, w⟩ => ⟨Z, S, R, h.mo _ _ (fun xs ⟨ez, q⟩ vs H1 ev1 R1 d1 => by
    have z : vs.length ≤ sizeLine := by rw [d1.length, List.length_map, ez]; exact hz
    refine ⟨z, fun p np => q p vs _ (ev1.trans (.of_same (same_new np)) fun a z => .inl z) (R1.same (same_new np)) ?_ upd_same z ?_⟩
    · rcases ev1.free np with n | n
      · exact n
      · exact absurd (mo_fa n) (R1.dom p np).2
    · exact (das_ne np d1).evo (M := fun _ => False) (.of_same (same_new np)) (fun _ _ z => z) fun _ _ _ z => z) (h.ln _ w)⟩⟩

/-! ## built-ins by values -/
def DC1 (r : List V → Hp → VK → Prop) (C : α → Prop) (g : α → β) : Prop := ∀ (A : Rgn) (H : Hp) (x : V) (a : α) (Q : VK), (∀ p, H p = none → A p) → DA A H x (enc a) → C a → (∀ v H', Same H H' → DA A H' v (enc (g a)) → Q v H') → r [x] H Q
def DC2 (r : List V → Hp → VK → Prop) (C : α → β → Prop) (g : α → β → γ) : Prop := ∀ (A : Rgn) (H : Hp) (x y : V) (a : α) (b : β) (Q : VK), (∀ p, H p = none → A p) → DA A H x (enc a) → DA A H y (enc b) → C a b →
  (∀ v H', Same H H' → DA A H' v (enc (g a b)) → Q v H') → r [x, y] H Q
theorem c1_ok {r : List V → Hp → VK → Prop} {C : α → Prop} {g : α → β} (hd : DC1 r C g) {Wa : (α → Prop) → Prop} (ha : WX X c Γ m e Wa) {σ : L2.St} {H : Hp} {Q : VK} (h : tW c Γ m (fun Q => Wa fun a => C a ∧ Q (g a)) σ H Q) : tCB r (tCons (tW c Γ m Wa) tNil) σ H Q := by
  obtain ⟨Z, S, R, w⟩ := h
  refine ⟨Z, S, R, ha.mo _ _ (fun a w v H1 ev1 R1 d1 => ?_) w⟩
  exact hd (Rg c (Mo c Z S) m) H1 v a Q (R1.new m) d1 w.1 fun z H3 sm d3 => w.2 z H3 (ev1.trans (.of_same sm) fun a q => .inl q) (R1.same sm) d3
theorem mono_c1 {C : α → Prop} {g : α → β} {Wa : (α → Prop) → Prop} (ma : Mono Wa) : Mono (fun Q => Wa fun a => C a ∧ Q (g a)) := fun _ _ k w => ma _ _ (fun a w => ⟨w.1, k _ w.2⟩) w
theorem wx_b1 {id : String} {x : Str} {r : List V → Hp → VK → Prop} {C : α → Prop} {g : α → β} (hc : CallR X (.builtin id) r) (hd : DC1 r C g) {Wa : (α → Prop) → Prop} (hg : Gl X x) (hm : X.mg x = none) (hv : bootBuiltins x = some (.builtin id)) (ha : WX X c Γ m e Wa)
    (hn : x ≠ "__name__" := by decide) (hdb : (x == ("__debug__" : Str)) = false := by decide) (hs : starEach [e] X.env = (false, eval e X.env) :: starEach [] X.env := by rfl) : WX X c Γ m (.Call (.Name x p) [e] [] pos) (fun Q => Wa fun a => C a ∧ Q (g a)) :=
  ⟨mono_c1 ha.mo, PE.mono (pe_callB hc hg hm hv (pa_cons ha.run pa_nil hs) hn hdb hs rfl) fun σ H Q h => c1_ok hd ha h⟩
theorem wx_ty1 {T : String} {x : Str} {r : List V → Hp → VK → Prop} {C : α → Prop} {g : α → β} (hc : CallR X (.type T) r) (hd : DC1 r C g) {Wa : (α → Prop) → Prop} (hg : Gl X x) (hm : X.mg x = none) (hv : bootBuiltins x = some (.type T)) (ha : WX X c Γ m e Wa)
    (hn : x ≠ "__name__" := by decide) (hdb : (x == ("__debug__" : Str)) = false := by decide) (hs : starEach [e] X.env = (false, eval e X.env) :: starEach [] X.env := by rfl) : WX X c Γ m (.Call (.Name x p) [e] [] pos) (fun Q => Wa fun a => C a ∧ Q (g a)) :=
  ⟨mono_c1 ha.mo, PE.mono (pe_callTy hc hg hm hv (pa_cons ha.run pa_nil hs) hn hdb hs rfl) fun σ H Q h => c1_ok hd ha h⟩
theorem px_b1 {id : String} {x : Str} {r : List V → Hp → VK → Prop} {C : α → Prop} {g : α → β} (hc : CallR X (.builtin id) r) (hd : DC1 r C g) {P : Prop} {a : α} (hg : Gl X x) (hm : X.mg x = none) (hv : bootBuiltins x = some (.builtin id)) (ha : WX X c Γ m e (Wp P a))
    (hn : x ≠ "__name__" := by decide) (hdb : (x == ("__debug__" : Str)) = false := by decide) (hs : starEach [e] X.env = (false, eval e X.env) :: starEach [] X.env := by rfl) : WX X c Γ m (.Call (.Name x p) [e] [] pos) (Wp (P ∧ C a) (g a)) :=
  (wx_b1 hc hd hg hm hv ha hn hdb hs).imp (fun Q q => ⟨q.1.1, q.1.2, q.2⟩) mono_wp
theorem px_ty1 {T : String} {x : Str} {r : List V → Hp → VK → Prop} {C : α → Prop} {g : α → β} (hc : CallR X (.type T) r) (hd : DC1 r C g) {P : Prop} {a : α} (hg : Gl X x) (hm : X.mg x = none) (hv : bootBuiltins x = some (.type T)) (ha : WX X c Γ m e (Wp P a))
    (hn : x ≠ "__name__" := by decide) (hdb : (x == ("__debug__" : Str)) = false := by decide) (hs : starEach [e] X.env = (false, eval e X.env) :: starEach [] X.env := by rfl) : WX X c Γ m (.Call (.Name x p) [e] [] pos) (Wp (P ∧ C a) (g a)) :=
  (wx_ty1 hc hd hg hm hv ha hn hdb hs).imp (fun Q q => ⟨q.1.1, q.1.2, q.2⟩) mono_wp
theorem wx_b2 {id : String} {x : Str} {r : List V → Hp → VK → Prop} {C : α → β → Prop} {g : α → β → γ} (hc : CallR X (.builtin id) r) (hd : DC2 r C g) {Wa : (α → Prop) → Prop} {Wb : (β → Prop) → Prop} (hg : Gl X x) (hm : X.mg x = none) (hv : bootBuiltins x = some (.builtin id)) (ha : WX X c Γ m e1 Wa) (hb : WX X c Γ m e2 Wb)
    (hn : x ≠ "__name__" := by decide) (hdb : (x == ("__debug__" : Str)) = false := by decide) (hs : starEach [e1, e2] X.env = (false, eval e1 X.env) :: starEach [e2] X.env := by rfl) (hs2 : starEach [e2] X.env = (false, eval e2 X.env) :: starEach [] X.env := by rfl) :
    WX X c Γ m (.Call (.Name x p) [e1, e2] [] pos) (fun Q => Wa fun a => Wb fun b => C a b ∧ Q (g a b)) :=
  ⟨mono_two ha.mo hb.mo, PE.mono (pe_callB hc hg hm hv (pa_cons ha.run (pa_cons hb.run pa_nil hs2) hs) hn hdb hs (by rw [hs2]; rfl)) fun σ H Q h => two_ok (r := fun x y H Q => r [x, y] H Q) hd ha.mo hb.mo h⟩
theorem px_b2 {id : String} {x : Str} {r : List V → Hp → VK → Prop} {C : α → β → Prop} {g : α → β → γ} (hc : CallR X (.builtin id) r) (hd : DC2 r C g) {Pa Pb : Prop} {a : α} {b : β} (hg : Gl X x) (hm : X.mg x = none) (hv : bootBuiltins x = some (.builtin id)) (ha : WX X c Γ m e1 (Wp Pa a)) (hb : WX X c Γ m e2 (Wp Pb b))
    (hn : x ≠ "__name__" := by decide) (hdb : (x == ("__debug__" : Str)) = false := by decide) (hs : starEach [e1, e2] X.env = (false, eval e1 X.env) :: starEach [e2] X.env := by rfl) (hs2 : starEach [e2] X.env = (false, eval e2 X.env) :: starEach [] X.env := by rfl) :
    WX X c Γ m (.Call (.Name x p) [e1, e2] [] pos) (Wp (Pa ∧ Pb ∧ C a b) (g a b)) := (wx_b2 hc hd hg hm hv ha hb hn hdb hs hs2).imp (fun Q h => ⟨h.1.1, h.1.2.1, h.1.2.2, h.2⟩) mono_wp

theorem DA.lstI {A : Rgn} {H : Hp} {x : V} {ns : List Int} (h : DA A H x (enc ns)) : ∃ l, x = .ref l ∧ H l = some (.lst (ns.map V.int)) ∧ ns.length ≤ sizeLine := by
  cases (h : DA A H x (.list (ns.map enc))) with
  | @lst l vs _ al r z q =>
    have e : vs = ns.map V.int := DAs.ints q
    subst e
    exact ⟨l, rfl, r, by simpa using z⟩
theorem DA.lstL {A : Rgn} {H : Hp} {x : V} {xs : List α} (h : DA A H x (enc xs)) : ∃ l vs, x = .ref l ∧ A l ∧ H l = some (.lst vs) ∧ vs.length = xs.length ∧ xs.length ≤ sizeLine ∧ DAs A H vs (xs.map enc) := by
  cases (h : DA A H x (.list (xs.map enc))) with
  | @lst l vs _ al r z q =>
    have e1 : vs.length = xs.length := by rw [q.length, List.length_map]
    exact ⟨l, vs, rfl, al, r, e1, e1 ▸ z, q⟩
theorem dc_len {K : PySem.W.Frag} : DC1 (fun xs H Q => ∃ p ys, xs = [V.ref p] ∧ (SqL K H p ys ∨ SqT K H p ys) ∧ Q (.int ys.length) H) (fun _ => True) (fun xs : List α => (xs.length : Int)) := by
  intro A H x a Q new hx _ k
  obtain ⟨l, vs, rfl, al, r, e1, z, q⟩ := hx.lstL
  exact ⟨l, vs, rfl, .inl (SqL.of r), by rw [e1]; exact k _ H (.refl H) (.int _)⟩
theorem dc_lenT {K : PySem.W.Frag} : DC1 (fun xs H Q => ∃ p ys, xs = [V.ref p] ∧ (SqL K H p ys ∨ SqT K H p ys) ∧ Q (.int ys.length) H) (fun _ => True) (fun _ : α × β => (2 : Int)) := by
  intro A H x a Q new hx _ k
  cases (hx : DA A H x (.tuple [enc a.1, enc a.2])) with
  | @tup l vs _ r z q => exact ⟨l, vs, rfl, .inr (SqT.of r), by rw [q.length]; exact k _ H (.refl H) (.int _)⟩
theorem dc_lenT3 {K : PySem.W.Frag} : DC1 (fun xs H Q => ∃ p ys, xs = [V.ref p] ∧ (SqL K H p ys ∨ SqT K H p ys) ∧ Q (.int ys.length) H) (fun _ => True) (fun _ : T3 α β γ => (3 : Int)) := by
  intro A H x a Q new hx _ k
  cases (hx : DA A H x (.tuple [enc a.a, enc a.b, enc a.c])) with
  | @tup l vs _ r z q => exact ⟨l, vs, rfl, .inr (SqT.of r), by rw [q.length]; exact k _ H (.refl H) (.int _)⟩
theorem dc_lenT4 {K : PySem.W.Frag} : DC1 (fun xs H Q => ∃ p ys, xs = [V.ref p] ∧ (SqL K H p ys ∨ SqT K H p ys) ∧ Q (.int ys.length) H) (fun _ => True) (fun _ : T4 α β γ δ => (4 : Int)) := by
  intro A H x a Q new hx _ k
  cases (hx : DA A H x (.tuple [enc a.a, enc a.b, enc a.c, enc a.d])) with
  | @tup l vs _ r z q => exact ⟨l, vs, rfl, .inr (SqT.of r), by rw [q.length]; exact k _ H (.refl H) (.int _)⟩
theorem dc_abs : DC1 (fun xs H Q => ∃ i, xs = [V.int i] ∧ Q (.int (if i < 0 then -i else i)) H) (fun _ => True) (fun i : Int => if i < 0 then -i else i) := by
  intro A H x a Q new hx _ k
  cases (hx : DA A H x (.int a))
  exact ⟨a, rfl, k _ H (.refl H) (.int _)⟩
theorem dc_int : DC1 (fun xs H Q => (∃ i, xs = [V.int i] ∧ Q (.int i) H) ∨ ∃ k, xs = [V.bl k] ∧ Q (.int (if k then 1 else 0)) H) (fun _ => True) (fun i : Int => i) := by
  intro A H x a Q new hx _ k
  cases (hx : DA A H x (.int a))
  exact .inl ⟨a, rfl, k _ H (.refl H) (.int _)⟩
theorem dc_intB : DC1 (fun xs H Q => (∃ i, xs = [V.int i] ∧ Q (.int i) H) ∨ ∃ k, xs = [V.bl k] ∧ Q (.int (if k then 1 else 0)) H) (fun _ => True) (fun b : Bool => if b then (1 : Int) else 0) := by
  intro A H x a Q new hx _ k
  cases (hx : DA A H x (.bool a))
  exact .inr ⟨a, rfl, k _ H (.refl H) (.int _)⟩
theorem dc_max2 : DC2 (fun xs H Q => ∃ i j, xs = [V.int i, .int j] ∧ Q (.int (if j > i then j else i)) H) (fun _ _ => True) (fun i j : Int => max i j) := by
  intro A H x y a b Q new hx hy _ k
  cases (hx : DA A H x (.int a))
  cases (hy : DA A H y (.int b))
  refine ⟨a, b, rfl, ?_⟩
  have e : (if b > a then b else a) = max a b := by split <;> omega
  rw [e]
  exact k _ H (.refl H) (.int _)
theorem dc_min2 : DC2 (fun xs H Q => ∃ i j, xs = [V.int i, .int j] ∧ Q (.int (if j < i then j else i)) H) (fun _ _ => True) (fun i j : Int => min i j) := by
  intro A H x y a b Q new hx hy _ k
  cases (hx : DA A H x (.int a))
  cases (hy : DA A H y (.int b))
  refine ⟨a, b, rfl, ?_⟩
  have e : (if b < a then b else a) = min a b := by split <;> omega
  rw [e]
  exact k _ H (.refl H) (.int _)
theorem dc_sum {K : PySem.W.Frag} : DC1 (rSum K) (fun _ => True) (fun ns : List Int => ns.sum) := by
  intro A H x a Q new hx _ k
  obtain ⟨l, rfl, r, z⟩ := hx.lstI
  exact ⟨l, a, rfl, SqL.of r, k _ H (.refl H) (.int _)⟩
/-- the greatest, the least of a list of ints -/
def gmax : List Int → Int
  | [] => 0
  | [x] => x
  | x :: y :: r => max x (gmax (y :: r))
def gmin : List Int → Int
  | [] => 0
  | [x] => x
  | x :: y :: r => min x (gmin (y :: r))
theorem gmax_spec : ∀ {ns : List Int}, ns ≠ [] → gmax ns ∈ ns ∧ ∀ y ∈ ns, y ≤ gmax ns
  | [], h => absurd rfl h
  | [x], _ => by simp [gmax]
  | x :: y :: r, _ => by
    obtain ⟨h1, h2⟩ := gmax_spec (ns := y :: r) (by simp)
    unfold gmax
    refine ⟨?_, fun z hz => ?_⟩
    · by_cases h : x ≤ gmax (y :: r)
      · rw [Int.max_eq_right h]; exact List.mem_cons_of_mem _ h1
      · rw [Int.max_eq_left (by omega)]; exact List.mem_cons_self
    · rcases List.mem_cons.mp hz with rfl | hz
      · exact Int.le_max_left _ _
      · exact Int.le_trans (h2 z hz) (Int.le_max_right _ _)
theorem gmin_spec : ∀ {ns : List Int}, ns ≠ [] → gmin ns ∈ ns ∧ ∀ y ∈ ns, gmin ns ≤ y
  | [], h => absurd rfl h
  | [x], _ => by simp [gmin]
  | x :: y :: r, _ => by
    obtain ⟨h1, h2⟩ := gmin_spec (ns := y :: r) (by simp)
    unfold gmin
    refine ⟨?_, fun z hz => ?_⟩
    · by_cases h : x ≤ gmin (y :: r)
      · rw [Int.min_eq_left h]; exact List.mem_cons_self
      · rw [Int.min_eq_right (by omega)]; exact List.mem_cons_of_mem _ h1
    · rcases List.mem_cons.mp hz with rfl | hz
      · exact Int.min_le_left _ _
      · exact Int.le_trans (Int.min_le_right _ _) (h2 z hz)
theorem dc_max {K : PySem.W.Frag} : DC1 (rMax K) (fun ns => ns ≠ []) (fun ns : List Int => gmax ns) := by
  intro A H x a Q new hx h k
  obtain ⟨l, rfl, r, z⟩ := hx.lstI
  refine ⟨l, a, rfl, SqL.of r, List.length_pos_iff.mpr h, fun n hn hle => ?_⟩
  obtain ⟨h1, h2⟩ := gmax_spec h
  have e : n = gmax a := Int.le_antisymm (h2 n hn) (hle _ h1)
  rw [e]
  exact k _ H (.refl H) (.int _)
theorem dc_min {K : PySem.W.Frag} : DC1 (rMin K) (fun ns => ns ≠ []) (fun ns : List Int => gmin ns) := by
  intro A H x a Q new hx h k
  obtain ⟨l, rfl, r, z⟩ := hx.lstI
  refine ⟨l, a, rfl, SqL.of r, List.length_pos_iff.mpr h, fun n hn hle => ?_⟩
  obtain ⟨h1, h2⟩ := gmin_spec h
  have e : n = gmin a := Int.le_antisymm (hle _ h1) (h2 n hn)
  rw [e]
  exact k _ H (.refl H) (.int _)
theorem DA.lstB {A : Rgn} {H : Hp} {x : V} {ns : List Bool} (h : DA A H x (enc ns)) : ∃ l, x = .ref l ∧ H l = some (.lst (ns.map V.bl)) := by
  cases (h : DA A H x (.list (ns.map enc))) with
  | @lst l vs _ al r z q =>
    have e : vs = ns.map V.bl := DAs.bls q
    subst e
    exact ⟨l, rfl, r⟩
theorem dc_any {K : PySem.W.Frag} : DC1 (rAny K) (fun _ => True) (fun ns : List Bool => ns.any id) := by
  intro A H x a Q new hx _ k
  obtain ⟨l, rfl, r⟩ := hx.lstB
  exact ⟨l, a, rfl, SqL.of r, k _ H (.refl H) (.bl _)⟩
theorem dc_all {K : PySem.W.Frag} : DC1 (rAll K) (fun _ => True) (fun ns : List Bool => ns.all id) := by
  intro A H x a Q new hx _ k
  obtain ⟨l, rfl, r⟩ := hx.lstB
  exact ⟨l, a, rfl, SqL.of r, k _ H (.refl H) (.bl _)⟩
theorem dc_list {K : PySem.W.Frag} : DC1 (fun xs H Q => ∃ p ys, xs = [V.ref p] ∧ (SqL K H p ys ∨ SqT K H p ys) ∧ ∀ l, H l = none → Q (.ref l) (upd H l (.lst ys))) (fun _ => True) (fun xs : List α => xs) := by
  intro A H x a Q new hx _ k
  obtain ⟨l, vs, rfl, al, r, e1, z, q⟩ := hx.lstL
  refine ⟨l, vs, rfl, .inl (SqL.of r), fun p np => k _ _ (same_new np) (.lst (new p np) upd_same (e1 ▸ z) ?_)⟩
  exact q.evo (M := fun _ => False) (.of_same (same_new np)) (fun _ _ z => z) fun _ _ _ z => z
/-! ### sorted -/
def ins (le : γ → γ → Bool) (x : γ) : List γ → List γ
  | [] => [x]
  | y :: r => if le x y then x :: y :: r else y :: ins le x r
def srt (le : γ → γ → Bool) : List γ → List γ
  | [] => []
  | x :: r => ins le x (srt le r)
theorem ins_perm (le : γ → γ → Bool) (x : γ) : ∀ l : List γ, (ins le x l).Perm (x :: l)
  | [] => .refl _
  | y :: r => by
    unfold ins
    split
    · exact .refl _
    · exact ((ins_perm le x r).cons y).trans (.swap x y r)
theorem srt_perm (le : γ → γ → Bool) : ∀ l : List γ, (srt le l).Perm l
  | [] => .refl _
  | x :: r => (ins_perm le x _).trans ((srt_perm le r).cons x)
theorem ins_srt {le : γ → γ → Bool} (tot : ∀ x y, le x y = true ∨ le y x = true) (tr : ∀ x y z, le x y = true → le y z = true → le x z = true) (x : γ) : ∀ {l : List γ}, l.Pairwise (fun a b => le a b = true) → (ins le x l).Pairwise (fun a b => le a b = true)
  | [], _ => List.pairwise_singleton _ _
  | y :: r, h => by
    obtain ⟨h1, h2⟩ := List.pairwise_cons.mp h
    unfold ins
    split
    · rename_i hxy
      exact List.pairwise_cons.mpr ⟨fun z hz => by
        rcases List.mem_cons.mp hz with rfl | hz
        · exact hxy
        · exact tr _ _ _ hxy (h1 z hz), h⟩
    · rename_i hxy
      have hyx : le y x = true := (tot x y).resolve_left hxy
      refine List.pairwise_cons.mpr ⟨fun z hz => ?_, ins_srt tot tr x h2⟩
      rcases List.mem_cons.mp ((ins_perm le x r).mem_iff.mp hz) with rfl | hz
      · exact hyx
      · exact h1 z hz
theorem srt_srt {le : γ → γ → Bool} (tot : ∀ x y, le x y = true ∨ le y x = true) (tr : ∀ x y z, le x y = true → le y z = true → le x z = true) : ∀ l : List γ, (srt le l).Pairwise (fun a b => le a b = true)
  | [] => .nil
  | x :: r => ins_srt tot tr x (srt_srt tot tr r)
theorem sorted_uniq {le : γ → γ → Bool} (anti : ∀ x y, le x y = true → le y x = true → x = y) : ∀ {l m : List γ}, l.Pairwise (fun a b => le a b = true) → m.Pairwise (fun a b => le a b = true) → l.Perm m → l = m
  | [], m, _, _, h => by rw [List.nil_perm.mp h]
  | x :: l, [], _, _, h => absurd h.length_eq (by simp)
  | x :: l, y :: m, hl, hm, h => by
    obtain ⟨l1, l2⟩ := List.pairwise_cons.mp hl
    obtain ⟨m1, m2⟩ := List.pairwise_cons.mp hm
    have e : x = y := by
      rcases List.mem_cons.mp (h.mem_iff.mp List.mem_cons_self) with e | hx
      · exact e
      · rcases List.mem_cons.mp (h.mem_iff.mpr (List.mem_cons_self (a := y) (l := m))) with e | hy
        · exact e.symm
        · exact anti _ _ (l1 y hy) (m1 x hx)
    subst e
    rw [sorted_uniq anti l2 m2 h.cons_inv]
def leI (a b : Int) : Bool := decide (a ≤ b)
def leP (p q : Int × Int) : Bool := decide (p.1 < q.1 ∨ (p.1 = q.1 ∧ p.2 ≤ q.2))
theorem leI_tot (x y : Int) : leI x y = true ∨ leI y x = true := by simp only [leI, decide_eq_true_eq]; omega
theorem leI_tr (x y z : Int) : leI x y = true → leI y z = true → leI x z = true := by simp only [leI, decide_eq_true_eq]; omega
theorem leI_anti (x y : Int) : leI x y = true → leI y x = true → x = y := by simp only [leI, decide_eq_true_eq]; omega
theorem leP_tot (x y : Int × Int) : leP x y = true ∨ leP y x = true := by simp only [leP, decide_eq_true_eq]; omega
theorem leP_tr (x y z : Int × Int) : leP x y = true → leP y z = true → leP x z = true := by simp only [leP, decide_eq_true_eq]; omega
theorem leP_anti (x y : Int × Int) : leP x y = true → leP y x = true → x = y := by
  simp only [leP, decide_eq_true_eq]
  intro h1 h2
  exact Prod.ext (by omega) (by omega)
theorem dc_sortI {K : PySem.W.Frag} : DC1 (rSortedI K) (fun _ => True) (fun ns : List Int => srt leI ns) := by
  intro A H x a Q new hx _ k
  obtain ⟨l, rfl, r, z⟩ := hx.lstI
  refine ⟨l, a, rfl, SqL.of r, fun ns p pm ps np => ?_⟩
  have e : ns = srt leI a := sorted_uniq leI_anti (ps.imp fun h => by simpa [leI] using h) (srt_srt leI_tot leI_tr a) (pm.trans (srt_perm leI a).symm)
  subst e
  refine k _ _ (same_new np) (.lst (new p np) upd_same (by rw [List.length_map, (srt_perm leI a).length_eq]; exact z) (DAs.of_ints _))
/-- what a value is as a pair of ints -/
def kH (H : Hp) (x : V) : Int × Int := match x with
  | .ref t => match H t with
    | some (.tup [.int i, .int j]) => (i, j)
    | _ => (0, 0)
  | _ => (0, 0)
theorem kH_of {A : Rgn} {H : Hp} {v : V} {p : Int × Int} (h : DA A H v (enc p)) : kH H v = p := by
  obtain ⟨t, rfl, r⟩ := h.tupI
  simp only [kH, r]
theorem kH_map {A : Rgn} {H : Hp} : ∀ {vs : List V} {ps : List (Int × Int)}, DAs A H vs (ps.map enc) → vs.map (kH H) = ps
  | [], [], _ => rfl
  | v :: vs, q :: ps, h => by
    cases h with
    | cons h1 h2 => rw [List.map_cons, kH_of h1, kH_map h2]
  | [], _ :: _, h => nomatch h
  | _ :: _, [], h => nomatch h
theorem kH_back {A : Rgn} {H : Hp} : ∀ {vs : List V}, (∀ v ∈ vs, DA A H v (enc (kH H v))) → DAs A H vs ((vs.map (kH H)).map enc)
  | [], _ => .nil
  | v :: vs, h => .cons (h v List.mem_cons_self) (kH_back fun u hu => h u (List.mem_cons_of_mem _ hu))
theorem DAs.mem {A : Rgn} {H : Hp} : ∀ {vs : List V} {ps : List (Int × Int)}, DAs A H vs (ps.map enc) → ∀ v ∈ vs, DA A H v (enc (kH H v))
  | v :: vs, q :: ps, h, u, hu => by
    cases h with
    | cons h1 h2 =>
      rcases List.mem_cons.mp hu with rfl | hu
      · rw [kH_of h1]; exact h1
      · exact DAs.mem h2 u hu
  | _ :: _, [], h, _, _ => nomatch h
theorem lexB_le {p q : Int × Int} (h : SrtO.lexB q p = false) : leP p q = true := by
  have := SrtO.lexB_no.mp h
  simp only [leP, decide_eq_true_eq]
  omega
theorem dc_sortP {K : PySem.W.Frag} : DC1 (rSortedPO K) (fun _ => True) (fun ns : List (Int × Int) => srt leP ns) := by
  intro A H x a Q new hx _ k
  obtain ⟨l, vs, rfl, al, r, e1, z, q⟩ := hx.lstL
  refine ⟨l, vs, kH H, rfl, SqL.of r, fun v hv => ?_, fun ys p h1 h2 np => ?_⟩
  · obtain ⟨t, e, h⟩ := (DAs.mem q v hv).tupI
    exact ⟨t, e, h⟩
  · have pm : (ys.map (kH H)).Perm a := by rw [← kH_map q]; exact h2.perm.map _
    have ps : (ys.map (kH H)).Pairwise (fun a b => leP a b = true) := List.pairwise_map.mpr (h1.imp fun h => lexB_le h)
    have e : ys.map (kH H) = srt leP a := sorted_uniq leP_anti ps (srt_srt leP_tot leP_tr a) (pm.trans (srt_perm leP a).symm)
    have hs : DAs A H ys ((srt leP a).map enc) := by
      rw [← e]
      exact kH_back fun v hv => DAs.mem q v (h2.perm.mem_iff.mp hv)
    exact k _ _ (same_new np) (.lst (new p np) upd_same (by rw [h2.perm.length_eq, e1]; exact z) (hs.evo (M := fun _ => False) (.of_same (same_new np)) (fun _ _ z => z) fun _ _ _ z => z))
end
end DL

namespace DL
open PySem PySem.Spec PyProof.Rows L2
open Enc (enc)
section
variable {c : Cf} {Z Z' : Rgn} {S S' : Nat → Rgn} {H H' : Hp} {σ σ' : L2.St} {Γ Γ' : List LD}
theorem rg_sub {M M' : Rgn} (hm : ∀ a, M' a → M a) : ∀ (m : Rk) a, Rg c M m a → Rg c M' m a
  | .any, _, h => h
  | .pl, a, h => fun y => h (hm a y)
  | .fr, a, h => ⟨fun y => h.1 (hm a y), h.2⟩
theorem rg_nm {M : Rgn} : ∀ {m : Rk}, m ≠ .any → ∀ a, Rg c M m a → ¬ M a
  | .any, h, _, _ => absurd rfl h
  | .pl, _, _, h => h
  | .fr, _, _, h => h.1
/-- slots by parts: the data's lists may be moved to another region and heap -/
theorem RV.map {M M' : Rgn} {Si Si' : Rgn} {sv : Option (Option V)} {l : LD} (h : RV c M Si H sv l) (k : ∀ (m : Rk) a xs, m ≠ .any → Rg c M m a → H a = some (.lst xs) → Rg c M' m a ∧ H' a = some (.lst xs))
    (ks : ∀ a xs, Si a → H a = some (.lst xs) → Si' a ∧ H' a = some (.lst xs)) (kt : ∀ a xs, H a = some (.tup xs) → H' a = some (.tup xs)) : RV c M' Si' H' sv l := by
  cases l with
  | no => trivial
  | d m x => obtain ⟨nm, v, e, h⟩ := h; exact ⟨nm, v, e, DA.map (fun a xs ha r => k m a xs nm ha r) kt _ h⟩
  | own m xs => obtain ⟨nm, a, vs, e, s, f, h, z, hs⟩ := h; exact ⟨nm, a, vs, e, (ks a _ s h).1, f, (ks a _ s h).2, z, DAs.map (fun a xs ha r => k m a xs nm ha r) kt _ hs⟩
  | frs x => obtain ⟨v, e, h⟩ := h; exact ⟨v, e, DA.map (fun a xs ha r => ks a xs ha r) kt _ h⟩
  | fd => exact h
/-- less is set aside -/
theorem Rep.less (R : Rep c Z S H σ Γ) (hz : ∀ a, Z' a → Z a) : Rep c Z' S H σ Γ := by
  have hm : ∀ a, Mo c Z' S a → Mo c Z S a := fun a h => h.imp (hz a) id
  exact ⟨fun i l q => (R.slot i l q).map (fun m a xs _ ha r => ⟨rg_sub hm m a ha, r⟩) (fun _ _ ha r => ⟨ha, r⟩) fun _ _ r => r, R.disj, fun i a s => ⟨fun z => (R.zs i a s).1 (hz a z), (R.zs i a s).2⟩,
    fun a n => ⟨(R.dom a n).1, fun z => (R.dom a n).2 (hm a z)⟩, fun F q => ⟨(R.feed F q).1, fun z => (R.feed F q).2 (hm _ z)⟩, R.len, fun a z => R.zf a (hz a z)⟩
abbrev plus (Z : Rgn) (D : Addr) : Rgn := fun a => Z a ∨ a = D
theorem mo_plus {D a : Addr} (h : Mo c (plus Z D) S a) : Mo c Z S a ∨ a = D := by
  rcases h with (z | z) | z
  · exact .inl (.inl z)
  · exact .inr z
  · exact .inl (.inr z)
theorem rg_plus {D a : Addr} (ne : a ≠ D) : ∀ (m : Rk), Rg c (Mo c Z S) m a → Rg c (Mo c (plus Z D) S) m a
  | .any, h => h
  | .pl, h => fun y => (mo_plus y).elim h ne
  | .fr, h => ⟨fun y => (mo_plus y).elim h.1 ne, h.2⟩
/-- a new list is set aside -/
theorem Rep.aside {D : Addr} {xs : List V} (R : Rep c Z S H σ Γ) (n : H D = none) : Rep c (plus Z D) S (upd H D (.lst xs)) σ Γ := by
  have sm : Same H (upd H D (.lst xs)) := same_new n
  have R1 := R.same sm
  refine ⟨fun i l q => (R.slot i l q).map (fun m a xs _ ha r => ⟨rg_plus (ne_of_none r n) m ha, sm _ _ r⟩) (fun a xs ha r => ⟨ha, sm _ _ r⟩) fun a xs r => sm _ _ r, R.disj, fun i a s => ⟨fun z => ?_, (R.zs i a s).2⟩, fun a na => ?_, fun F q => ⟨(R1.feed F q).1, ?_⟩, R.len, fun a z => ?_⟩
  · rcases z with z | z
    · exact (R.zs i a s).1 z
    · subst z
      exact (R.dom a n).2 (.inr (.inl ⟨i, s⟩))
  · have ne : a ≠ D := fun e => by subst e; rw [upd_same] at na; cases na
    rw [upd_ne ne] at na
    exact ⟨(R.dom a na).1, fun z => (mo_plus z).elim (R.dom a na).2 ne⟩
  · intro z
    obtain ⟨⟨_, h2, _⟩, h3⟩ := R.feed F q
    rcases mo_plus z with z | z
    · exact h3 z
    · rw [z, n] at h2; cases h2
  · rcases z with z | z
    · exact R.zf a z
    · subst z
      exact fun f => (R.dom a n).2 (mo_fa f)
/-- a list outside the env is written -/
theorem evo_put {D : Addr} {xs ys : List V} (hD : H D = some (.lst xs)) : Evo (fun a => a = D) H (upd H D (.lst ys)) := fun a o q e => by
  by_cases h : a = D
  · subst h; rw [hD] at e; cases e; rcases q with q | q
    · exact absurd rfl q
    · cases q
  · rw [upd_ne h]; exact e
theorem Rep.putZ {D : Addr} {xs ys : List V} (R : Rep c Z S H σ Γ) (hz : Z D) (hD : H D = some (.lst xs)) : Rep c Z S (upd H D (.lst ys)) σ Γ := by
  have md : Mo c Z S D := .inl hz
  have kt : ∀ a xs, H a = some (.tup xs) → upd H D (.lst ys) a = some (.tup xs) := fun a us r => by rw [upd_ne (fun e => by subst e; rw [hD] at r; cases r)]; exact r
  refine ⟨fun i l q => (R.slot i l q).map (fun m a us nm ha r => ⟨ha, ?_⟩) (fun a us ha r => ⟨ha, ?_⟩) kt, R.disj, R.zs, fun a na => ?_, fun F q => ?_, R.len, R.zf⟩
  · rw [upd_ne (fun e => by subst e; exact rg_nm nm _ ha md)]; exact r
  · rw [upd_ne (fun e => by subst e; exact (R.zs i _ ha).1 hz)]; exact r
  · have ne : a ≠ D := fun e => by subst e; rw [upd_same] at na; cases na
    rw [upd_ne ne] at na
    exact R.dom a na
  · obtain ⟨⟨⟨i, b, s, h1, h2⟩, h3, h4⟩, h5⟩ := R.feed F q
    have n1 : F.a ≠ D := fun e => R.zf D hz ⟨F, q, e.symm⟩
    have n2 : F.ca ≠ D := fun e => h5 (e ▸ md)
    exact ⟨⟨⟨i, b, s, by rw [upd_ne n1]; exact h1, h2⟩, by rw [upd_ne n2]; exact h3, h4⟩, h5⟩
/-- a slot gets data -/
theorem Rep.set {i : Nat} {m : Rk} {v : V} {d : PyData} (R : Rep c Z S H σ Γ) (nm : m ≠ .any) (h : DA (Rg c (Mo c Z S) m) H v d) : Rep c Z S H (σ.set i (some v)) (Γ.set i (.d m d)) := by
  refine ⟨fun j l q => ?_, R.disj, R.zs, R.dom, R.feed, by simpa using R.len, R.zf⟩
  by_cases hj : j = i
  · subst hj
    by_cases hl : j < Γ.length
    · rw [List.getElem?_set_self hl] at q
      cases q
      rw [List.getElem?_set_self (Nat.lt_of_lt_of_le hl R.len)]
      exact ⟨nm, v, rfl, h⟩
    · rw [List.getElem?_eq_none (by simpa using hl)] at q
      cases q
  · rw [List.getElem?_set_ne (Ne.symm hj)] at q ⊢
    exact R.slot j l q
/-- a slot is forgotten -/
theorem Rep.drop {i : Nat} {sv : Option V} (R : Rep c Z S H σ Γ) : Rep c Z S H (σ.set i sv) (Γ.set i .no) := by
  refine ⟨fun j l q => ?_, R.disj, R.zs, R.dom, R.feed, by simpa using R.len, R.zf⟩
  by_cases hj : j = i
  · subst hj
    by_cases hl : j < Γ.length
    · rw [List.getElem?_set_self hl] at q
      cases q
      trivial
    · rw [List.getElem?_eq_none (by simpa using hl)] at q
      cases q
  · rw [List.getElem?_set_ne (Ne.symm hj)] at q ⊢
    exact R.slot j l q
def wipeG (Γ : List LD) : List Nat → List LD
  | [] => Γ
  | v :: vs => (wipeG Γ vs).set v .no
theorem Rep.wipe (R : Rep c Z S H σ Γ) : ∀ vs : List Nat, Rep c Z S H (L2.wipe σ vs) (wipeG Γ vs)
  | [] => R
  | v :: vs => Rep.drop (Rep.wipe R vs)
theorem wipe_get {σ : L2.St} {j : Nat} : ∀ (vs : List Nat), (L2.wipe σ vs)[j]? = if j ∈ vs then (if j < σ.length then some none else none) else σ[j]?
  | [] => by simp [L2.wipe]
  | v :: vs => by
    unfold L2.wipe
    by_cases hj : v = j
    · subst hj
      rw [List.getElem?_set]
      simp [L2.wipe_length]
    · rw [List.getElem?_set_ne hj, wipe_get vs]
      have : j ∈ v :: vs ↔ j ∈ vs := by rw [List.mem_cons]; exact ⟨fun h => h.resolve_left (Ne.symm hj), .inr⟩
      simp only [this]
theorem wipe_set {σ : L2.St} {i : Nat} {x : Option V} {vs : List Nat} (h : i ∈ vs) : L2.wipe (σ.set i x) vs = L2.wipe σ vs := by
  refine List.ext_getElem? fun j => ?_
  rw [wipe_get, wipe_get, List.length_set]
  by_cases hj : j ∈ vs
  · rw [if_pos hj, if_pos hj]
  · rw [if_neg hj, if_neg hj, List.getElem?_set_ne (fun e => hj (by subst e; exact h))]
theorem wipe_wipe {σ : L2.St} (vs : List Nat) : L2.wipe (L2.wipe σ vs) vs = L2.wipe σ vs := by
  refine List.ext_getElem? fun j => ?_
  rw [wipe_get, wipe_get, L2.wipe_length]
  by_cases hj : j ∈ vs
  · rw [if_pos hj, if_pos hj]
  · rw [if_neg hj, if_neg hj]
end

/-! ## what is walked -/
def Yl (M A : Rgn) (J : It) (H0 : Hp) (ds : List PyData) : Prop := ∀ H, Evo M H0 H → (∀ i d, ds[i]? = some d → J.go i H ∧ ∀ v H', J.yld i H v H' → Same H H' ∧ DA (fun a => A a ∧ ∃ o, H0 a = some o) H' v d) ∧ J.stop ds.length H
def Mk' (c : Cf) (M : Rgn) (k : Bool) : Rgn := if k then fa c else M
section
variable {α β γ δ ρ : Type} [Enc α] [Enc β] [Enc γ] [Enc δ] [Enc ρ]
variable {X : Cx} {c : Cf} {Γ Γ' : List LD} {m m' m1 m2 : Rk} {e e1 e2 e3 e4 tg : Expr} {es : List Expr} {pos p p2 : Pos} {k : Bool}
def tWI (c : Cf) (Γ : List LD) (k : Bool) (m : Rk) (W : (List α → Prop) → Prop) : TI := fun σ H R => ∃ Z S, Rep c Z S H σ Γ ∧ W fun xs => ∀ J H', Evo (fa c) H H' → Rep c Z S H' σ Γ → xs.length ≤ sizeLine →
  Yl (Mk' c (Mo c Z S) k) (Rg c (Mo c Z S) m) J H' (xs.map enc) → R J H'
/-- k: the walked list may be an own one, of which nothing is written meanwhile -/
structure WI (X : Cx) (c : Cf) (Γ : List LD) (k : Bool) (m : Rk) (tg e : Expr) (W : (List α → Prop) → Prop) : Prop where
  mo : Mono W
  run : PI X tg e (tWI c Γ k m W)
theorem WI.imp {W W' : (List α → Prop) → Prop} (h : WI X c Γ k m tg e W) (q : ∀ Q, W' Q → W Q) (mo : Mono W') : WI X c Γ k m tg e W' :=
  ⟨mo, PI.mono h.run fun σ H Q ⟨Z, S, R, w⟩ => ⟨Z, S, R, q _ w⟩⟩
theorem yl_list {K : PySem.W.Frag} {M A : Rgn} {H : Hp} {l : Addr} {vs : List V} {ds : List PyData} (n : ¬ M l) (h : H l = some (.lst vs)) (hs : DAs A H vs ds) (hA : ∀ a, A a → ¬ M a) : Yl M A (Itl K l) H ds := fun H' ev => by
  have h' := ev l _ (.inl n) h
  refine ⟨fun i d e => ?_, ⟨vs, SqL.of h', Nat.le_of_eq hs.length⟩⟩
  obtain ⟨v, e1, dv⟩ := hs.get' e
  refine ⟨⟨vs, v, SqL.of h', e1⟩, fun u H2 y => ?_⟩
  obtain ⟨rfl, y⟩ := y
  have e2 := y vs (SqL.of h')
  rw [e1] at e2
  cases e2
  refine ⟨.refl _, DA.map (fun a xs ha r => ⟨⟨ha, _, r⟩, ev a _ (.inl (hA a ha)) r⟩) (fun a xs r => ev a _ (.inr rfl) r) _ dv⟩
theorem mk_fa {M : Rgn} (hM : ∀ a, fa c a → M a) (k : Bool) : ∀ a, Mk' c M k a → M a := fun a h => by
  cases k with
  | true => exact hM a h
  | false => exact h
/-- over a list (what is in no list that is changed) -/
theorem wi_list {W : (List α → Prop) → Prop} (h : WX X c Γ m e W) (nm : m ≠ .any := by decide) : WI X c Γ k m tg e W :=
  ⟨h.mo, PI.mono (pi_list h.run) fun σ H Q ⟨Z, S, R, w⟩ => ⟨Z, S, R, h.mo _ _ (fun xs q v H1 ev1 R1 d1 => by
    obtain ⟨l, vs, rfl, al, r, e1, z, hs⟩ := d1.lstL
    have nM : ∀ a, Rg c (Mo c Z S) m a → ¬ Mk' c (Mo c Z S) k a := fun a ha z => rg_nm nm a ha (mk_fa (fun a => mo_fa) k a z)
    exact ⟨l, rfl, ⟨vs, SqL.of r⟩, q _ H1 ev1 R1 z (yl_list (nM l al) r hs nM)⟩) w⟩⟩
/-- over any list of what holds no lists, read now (in a comprehension) -/
theorem wi_listA {W : (List α → Prop) → Prop} (h : WX X c Γ m' e W) (n : Enc.nl α = true := by rfl) : WI X c Γ true m tg e W :=
  ⟨h.mo, PI.mono (pi_list h.run) fun σ H Q ⟨Z, S, R, w⟩ => ⟨Z, S, R, h.mo _ _ (fun xs q v H1 ev1 R1 d1 => by
    obtain ⟨l, vs, rfl, al, r, e1, z, hs⟩ := d1.lstL
    have nz : ∀ xs : List α, noLs (xs.map enc) = true := fun xs => by
      induction xs with
      | nil => rfl
      | cons x xs ih => rw [List.map_cons, noLs, Enc.nlok n x, ih]; rfl
    have hs' : DAs (Rg c (Mo c Z S) m) H1 vs (xs.map enc) := DAs.noL _ (nz xs) hs
    exact ⟨l, rfl, ⟨vs, SqL.of r⟩, q _ H1 ev1 R1 z (yl_list (M := fa c) (rg_nfa (fun a => mo_fa) m' l al) r hs' (rg_nfa (fun a => mo_fa) m))⟩) w⟩⟩
/-- over an own list of what holds lists (in a comprehension) -/
theorem wi_own (i : Nat) {a : List α} {x : Str} (hΓ : Γ[i]? = some (.own m (a.map enc)) := by rfl) (hN : X.N[i]? = some x := by rfl) (hv : Vis X.env.scope x := by first | exact Or.inl rfl | exact Or.inr (Or.inl rfl) | exact Or.inr (Or.inr rfl)) (hd : (x == ("__debug__" : Str)) = false := by decide)
    (hcd : (x == ("__classdict__" : Str)) = false := by decide) : WI X c Γ true m tg (.Name x pos) (Wp True a) :=
  ⟨mono_wp, PI.mono (pi_list (pe_var hN hv hd hcd)) fun σ H Q ⟨Z, S, R, _, w⟩ => by
    obtain ⟨nm, p, vs, e, s, f0, h, z, hs⟩ := R.slot i _ hΓ
    have e1 : vs.length = a.length := by rw [hs.length, List.length_map]
    exact ⟨_, e, p, rfl, ⟨vs, SqL.of h⟩, w _ H (.refl _ _) R (e1 ▸ z) (yl_list (M := fa c) (R.zs i p s).2 h hs (rg_nfa (fun a => mo_fa) m))⟩⟩
/-- ranges -/
def rng (lo hi : Int) : List Int := (List.range (hi - lo).toNat).map fun (k : Nat) => lo + (k : Int)
def cRg (lo hi : Int) : Prop := -4000000 ≤ lo ∧ lo ≤ 4000000 ∧ -4000000 ≤ hi ∧ hi ≤ 4000000
theorem rng_length (lo hi : Int) : (rng lo hi).length = (hi - lo).toNat := by simp [rng]
theorem yl_range {M A : Rgn} {H : Hp} {lo hi : Int} : Yl M A (Itr lo (hi - lo).toNat) H ((rng lo hi).map enc) := fun H' ev => by
  refine ⟨fun i d e => ?_, by rw [List.length_map, rng_length]; exact Nat.le_refl _⟩
  rw [List.getElem?_map] at e
  cases q : (rng lo hi)[i]? with
  | none => rw [q] at e; cases e
  | some z =>
    rw [q] at e
    cases e
    have hi' := (List.getElem?_eq_some_iff.mp q).1
    rw [rng_length] at hi'
    refine ⟨hi', fun v H2 y => ?_⟩
    obtain ⟨rfl, rfl⟩ := y
    have : z = lo + (i : Int) := by
      rw [rng, List.getElem?_map, List.getElem?_range hi'] at q
      exact (Option.some.inj q).symm
    subst this
    exact ⟨.refl _, .int _⟩
theorem cRg_len {lo hi : Int} (h : cRg lo hi) : (rng lo hi).length ≤ sizeLine := by
  rw [rng_length, sizeLine_eq]
  obtain ⟨h1, h2, h3, h4⟩ := h
  omega
theorem wi_range1 {Wa : (Int → Prop) → Prop} (ha : WX X c Γ m' e Wa) (hg : Gl X "range") (hm : X.mg "range" = none) (hs : starEach [e] X.env = [(false, eval e X.env)] := by rfl) :
    WI X c Γ k m tg (.Call (.Name "range" p) [e] [] pos) (fun Q => Wa fun n => cRg 0 n ∧ Q (rng 0 n)) :=
  ⟨fun _ _ k w => ha.mo _ _ (fun a w => ⟨w.1, k _ w.2⟩) w, PI.mono (pi_range1 hg hm (pa_cons ha.run pa_nil hs) hs) fun σ H Q ⟨Z, S, R, w⟩ => ⟨Z, S, R, ha.mo _ _ (fun n q v H1 ev1 R1 d1 => by
    cases (d1 : DA _ H1 v (.int n))
    have hz := cRg_len q.1
    obtain ⟨h1, h2, h3, h4⟩ := q.1
    refine ⟨n, rfl, by omega, by omega, q.2 _ H1 ev1 R1 hz ?_⟩
    have := yl_range (M := Mk' c (Mo c Z S) k) (A := Rg c (Mo c Z S) m) (H := H1) (lo := 0) (hi := n)
    rwa [Int.sub_zero] at this) w⟩⟩
theorem wi_range2 {Wa Wb : (Int → Prop) → Prop} (ha : WX X c Γ m' e1 Wa) (hb : WX X c Γ m' e2 Wb) (hg : Gl X "range") (hm : X.mg "range" = none) (hs : starEach [e1, e2] X.env = [(false, eval e1 X.env), (false, eval e2 X.env)] := by rfl) (hs2 : starEach [e2] X.env = [(false, eval e2 X.env)] := by rfl) :
    WI X c Γ k m tg (.Call (.Name "range" p) [e1, e2] [] pos) (fun Q => Wa fun a => Wb fun b => cRg a b ∧ Q (rng a b)) :=
  ⟨fun _ _ k w => ha.mo _ _ (fun a w => hb.mo _ _ (fun b w => ⟨w.1, k _ w.2⟩) w) w, PI.mono (pi_range2 hg hm (pa_cons ha.run (pa_cons hb.run pa_nil hs2) (by rw [hs, hs2])) hs hs2) fun σ H Q ⟨Z, S, R, w⟩ => ⟨Z, S, R, ha.mo _ _ (fun a w v H1 ev1 R1 d1 => ⟨Z, S, R1, hb.mo _ _ (fun b q u H2 ev2 R2 d2 => by
    cases (d1 : DA _ H1 v (.int a))
    cases (d2 : DA _ H2 u (.int b))
    have hz := cRg_len q.1
    obtain ⟨h1, h2, h3, h4⟩ := q.1
    exact ⟨a, b, rfl, ⟨by omega, by omega, by omega, by omega⟩, q.2 _ H2 (ev1.trans ev2 fun a z => .inl z) R2 hz yl_range⟩) w⟩) w⟩⟩
/-- enumerate -/
def enumL : Int → List α → List (Int × α)
  | _, [] => []
  | i, x :: xs => (i, x) :: enumL (i + 1) xs
theorem enumL_length : ∀ (i : Int) (xs : List α), (enumL i xs).length = xs.length
  | _, [] => rfl
  | i, x :: xs => by rw [enumL, List.length_cons, List.length_cons, enumL_length]
theorem enumL_get : ∀ (j : Int) (xs : List α) (i : Nat), (enumL j xs)[i]? = xs[i]?.map fun x => (j + (i : Int), x)
  | _, [], i => by simp [enumL]
  | j, x :: xs, 0 => by simp [enumL]
  | j, x :: xs, i + 1 => by
    rw [enumL, List.getElem?_cons_succ, List.getElem?_cons_succ, enumL_get (j + 1) xs i]
    congr 1
    funext x
    have : j + 1 + (i : Int) = j + ((i + 1 : Nat) : Int) := by omega
    rw [this]
theorem yl_enum {K : PySem.W.Frag} {M A : Rgn} {H : Hp} {l : Addr} {vs : List V} {xs : List α} (n : ¬ M l) (h : H l = some (.lst vs)) (hs : DAs A H vs (xs.map enc)) (hA : ∀ a, A a → ¬ M a) : Yl M A (Ite K l) H ((enumL 0 xs).map enc) := fun H' ev => by
  have h' := ev l _ (.inl n) h
  refine ⟨fun i d e => ?_, ⟨vs, SqL.of h', by rw [List.length_map, enumL_length, hs.length, List.length_map]; exact Nat.le_refl _⟩⟩
  rw [List.getElem?_map, enumL_get] at e
  cases q : xs[i]? with
  | none => rw [q] at e; cases e
  | some x =>
    rw [q] at e
    cases e
    obtain ⟨v, e1, dv⟩ := hs.get' (i := i) (d := enc x) (by rw [List.getElem?_map, q]; rfl)
    refine ⟨⟨vs, v, SqL.of h', e1⟩, fun u H2 y => ?_⟩
    obtain ⟨T, w, rfl, nT, rfl, y⟩ := y
    have e2 := y vs (SqL.of h')
    rw [e1] at e2
    cases e2
    refine ⟨same_new nT, ?_⟩
    have dv' : DA (fun a => A a ∧ ∃ o, H a = some o) (upd H' T (.tup [.int (i : Nat), v])) v (enc x) :=
      DA.map (fun a xs ha r => ⟨⟨ha, _, r⟩, same_new nT _ _ (ev a _ (.inl (hA a ha)) r)⟩) (fun a xs r => same_new nT _ _ (ev a _ (.inr rfl) r)) _ dv
    show DA _ _ _ (.tuple [enc ((0 : Int) + (i : Int)), enc x])
    rw [Int.zero_add]
    exact .tup upd_same (le_line (by show 2 ≤ 100; decide)) (.cons (.int _) (.cons dv' .nil))
theorem wi_enum {W : (List α → Prop) → Prop} {elts : List Expr} {kk : Nat} {tpos : Pos} (h : WX X c Γ m e W) (hg : Gl X "enumerate") (hm : X.mg "enumerate" = none) (nm : m ≠ .any := by decide) (hs : starEach [e] X.env = [(false, eval e X.env)] := by rfl) :
    WI X c Γ k m (.Tuple elts kk tpos) (.Call (.Name "enumerate" p) [e] [] pos) (fun Q => W fun xs => Q (enumL 0 xs)) :=
  ⟨fun _ _ k w => h.mo _ _ (fun a w => k _ w) w, PI.mono (pi_enum hg hm (pa_cons h.run pa_nil hs) hs) fun σ H Q ⟨Z, S, R, w⟩ => ⟨Z, S, R, h.mo _ _ (fun xs q v H1 ev1 R1 d1 => by
    obtain ⟨l, vs, rfl, al, r, e1, z, hs⟩ := d1.lstL
    have nM : ∀ a, Rg c (Mo c Z S) m a → ¬ Mk' c (Mo c Z S) k a := fun a ha z => rg_nm nm a ha (mk_fa (fun a => mo_fa) k a z)
    exact ⟨l, vs, rfl, SqL.of r, q _ H1 ev1 R1 (by rw [enumL_length]; exact z) (yl_enum (nM l al) r hs nM)⟩) w⟩⟩
theorem wi_enumA {W : (List α → Prop) → Prop} {elts : List Expr} {kk : Nat} {tpos : Pos} (h : WX X c Γ m' e W) (hg : Gl X "enumerate") (hm : X.mg "enumerate" = none) (n : Enc.nl α = true := by rfl) (hs : starEach [e] X.env = [(false, eval e X.env)] := by rfl) :
    WI X c Γ true m (.Tuple elts kk tpos) (.Call (.Name "enumerate" p) [e] [] pos) (fun Q => W fun xs => Q (enumL 0 xs)) :=
  ⟨fun _ _ k w => h.mo _ _ (fun a w => k _ w) w, PI.mono (pi_enum hg hm (pa_cons h.run pa_nil hs) hs) fun σ H Q ⟨Z, S, R, w⟩ => ⟨Z, S, R, h.mo _ _ (fun xs q v H1 ev1 R1 d1 => by
    obtain ⟨l, vs, rfl, al, r, e1, z, hs⟩ := d1.lstL
    have nz : ∀ xs : List α, noLs (xs.map enc) = true := fun xs => by
      induction xs with
      | nil => rfl
      | cons x xs ih => rw [List.map_cons, noLs, Enc.nlok n x, ih]; rfl
    have hs' : DAs (Rg c (Mo c Z S) m) H1 vs (xs.map enc) := DAs.noL _ (nz xs) hs
    exact ⟨l, vs, rfl, SqL.of r, q _ H1 ev1 R1 (by rw [enumL_length]; exact z) (yl_enum (M := fa c) (rg_nfa (fun a => mo_fa) m' l al) r hs' (rg_nfa (fun a => mo_fa) m))⟩) w⟩⟩
/-- over a pair -/
theorem wi_two {W : (α × α → Prop) → Prop} (h : WX X c Γ m e W) (nm : m ≠ .any := by decide) : WI X c Γ k m tg e (fun Q => W fun p => Q [p.1, p.2]) :=
  ⟨fun _ _ k w => h.mo _ _ (fun a w => k _ w) w, PI.mono (pi_tup h.run) fun σ H Q ⟨Z, S, R, w⟩ => ⟨Z, S, R, h.mo _ _ (fun q w v H1 ev1 R1 d1 => by
    cases (d1 : DA _ H1 v (.tuple [enc q.1, enc q.2])) with
    | @tup t vs _ r z hs =>
      have nM : ∀ a, Rg c (Mo c Z S) m a → ¬ Mk' c (Mo c Z S) k a := fun a ha z => rg_nm nm a ha (mk_fa (fun a => mo_fa) k a z)
      refine ⟨t, rfl, ⟨vs, SqT.of r⟩, w _ H1 ev1 R1 (le_line (by show 2 ≤ 100; decide)) fun H' ev => ?_⟩
      have h' := ev t _ (.inr rfl) r
      refine ⟨fun i d e => ?_, ⟨vs, SqT.of h', Nat.le_of_eq hs.length⟩⟩
      obtain ⟨v, e1, dv⟩ := hs.get' e
      refine ⟨⟨vs, v, SqT.of h', e1⟩, fun u H2 y => ?_⟩
      obtain ⟨rfl, y⟩ := y
      have e2 := y vs (SqT.of h')
      rw [e1] at e2
      cases e2
      exact ⟨.refl _, DA.map (fun a xs ha r => ⟨⟨ha, _, r⟩, ev a _ (.inl (nM a ha)) r⟩) (fun a xs r => ev a _ (.inr rfl) r) _ dv⟩) w⟩⟩
theorem pi_imp1 {P : Prop} {a : α} {g : α → List β} (h : WI X c Γ k m tg e (fun Q => Wp P a fun x => Q (g x))) : WI X c Γ k m tg e (Wp P (g a)) := h.imp (fun Q q => q) mono_wp

/-! ## comprehensions -/
/-- targets in a comprehension -/
structure CT (c : Cf) (Γ : List LD) (vs : List Nat) (m : Rk) (g : TG) (Γe : α → List LD) : Prop where
  run : ∀ (Z : Rgn) (S : Nat → Rgn) (H : Hp) (σ : L2.St) (v : V) (a : α) (Q : L2.St → Hp → Prop), Rep c Z S H σ Γ → DA (Rg c (Mo c Z S) m) H v (enc a) → (∀ σ2, Rep c Z S H σ2 (Γe a) → L2.wipe σ2 vs = L2.wipe σ vs → Q σ2 H) → g v (L2.wipe σ vs) H Q
theorem ct_name (i : Nat) (nm : m ≠ .any := by decide) : CT c Γ [i] m (gName i) (fun a : α => (wipeG Γ [i]).set i (.d m (enc a))) :=
  ⟨fun Z S H σ v a Q R d q => q _ ((R.wipe [i]).set nm d) (by rw [wipe_set (by simp), wipe_wipe])⟩
theorem ct_pair {K : PySem.W.Frag} (i j : Nat) (nm : m ≠ .any := by decide) : CT c Γ [i, j] m (gTup K 2 (gCons (gName i) (gCons (gName j) gNil))) (fun a : α × β => ((wipeG Γ [i, j]).set i (.d m (enc a.1))).set j (.d m (enc a.2))) :=
  ⟨fun Z S H σ v a Q R d q => by
    cases (d : DA _ H v (.tuple [enc a.1, enc a.2])) with
    | @tup t vs _ r z hs =>
      cases hs with
      | @cons v1 _ _ _ h1 hs =>
        cases hs with
        | @cons v2 _ _ _ h2 hs =>
          cases hs
          exact ⟨t, _, rfl, SqT.of r, rfl, v1, _, rfl, v2, _, rfl, rfl, q _ (((R.wipe [i, j]).set nm h1).set nm h2) (by rw [wipe_set (by simp), wipe_set (by simp), wipe_wipe])⟩⟩
theorem ct_t3 {K : PySem.W.Frag} (i j k : Nat) (nm : m ≠ .any := by decide) : CT c Γ [i, j, k] m (gTup K 3 (gCons (gName i) (gCons (gName j) (gCons (gName k) gNil)))) (fun a : T3 α β γ => (((wipeG Γ [i, j, k]).set i (.d m (enc a.a))).set j (.d m (enc a.b))).set k (.d m (enc a.c))) :=
  ⟨fun Z S H σ v a Q R d q => by
    cases (d : DA _ H v (.tuple [enc a.a, enc a.b, enc a.c])) with
    | @tup t vs _ r z hs =>
      cases hs with
      | @cons v1 _ _ _ h1 hs =>
        cases hs with
        | @cons v2 _ _ _ h2 hs =>
          cases hs with
          | @cons v3 _ _ _ h3 hs =>
            cases hs
            exact ⟨t, _, rfl, SqT.of r, rfl, v1, _, rfl, v2, _, rfl, v3, _, rfl, rfl, q _ ((((R.wipe [i, j, k]).set nm h1).set nm h2).set nm h3) (by rw [wipe_set (by simp), wipe_set (by simp), wipe_set (by simp), wipe_wipe])⟩⟩
theorem ct_t4 {K : PySem.W.Frag} (i j k l : Nat) (nm : m ≠ .any := by decide) : CT c Γ [i, j, k, l] m (gTup K 4 (gCons (gName i) (gCons (gName j) (gCons (gName k) (gCons (gName l) gNil))))) (fun a : T4 α β γ δ => ((((wipeG Γ [i, j, k, l]).set i (.d m (enc a.a))).set j (.d m (enc a.b))).set k (.d m (enc a.c))).set l (.d m (enc a.d))) :=
  ⟨fun Z S H σ v a Q R d q => by
    cases (d : DA _ H v (.tuple [enc a.a, enc a.b, enc a.c, enc a.d])) with
    | @tup t vs _ r z hs =>
      cases hs with
      | @cons v1 _ _ _ h1 hs =>
        cases hs with
        | @cons v2 _ _ _ h2 hs =>
          cases hs with
          | @cons v3 _ _ _ h3 hs =>
            cases hs with
            | @cons v4 _ _ _ h4 hs =>
              cases hs
              exact ⟨t, _, rfl, SqT.of r, rfl, v1, _, rfl, v2, _, rfl, v3, _, rfl, v4, _, rfl, rfl, q _ (((((R.wipe [i, j, k, l]).set nm h1).set nm h2).set nm h3).set nm h4) (by rw [wipe_set (by simp), wipe_set (by simp), wipe_set (by simp), wipe_set (by simp), wipe_wipe])⟩⟩
structure WTs (X : Cx) (c : Cf) (Γ : List LD) (ifs : List Expr) (W : (Bool → Prop) → Prop) : Prop where
  mo : Mono W
  run : PTs X ifs (tWT c Γ W)
theorem wts_nil : WTs X c Γ [] (Wp True true) := ⟨mono_wp, ⟨fun pins s σ H Q I ⟨Z, S, R, _, q⟩ => pts_nil.run pins s σ H Q I (q H (.refl _ _) R)⟩⟩
theorem wts_one {W : (Bool → Prop) → Prop} (h : WT X c Γ e W) : WTs X c Γ [e] W := ⟨h.mo, pts_one h.run⟩
/-- what the loop of a comprehension makes -/
def lcW (Wt : α → (Bool → Prop) → Prop) (We : α → (β → Prop) → Prop) : List α → List β → (List β → Prop) → Prop
  | [], acc, Q => Q acc
  | x :: xs, acc, Q => Wt x fun b => if b = true then We x fun y => lcW Wt We xs (acc ++ [y]) Q else lcW Wt We xs acc Q
theorem lcW_mono {Wt : α → (Bool → Prop) → Prop} {We : α → (β → Prop) → Prop} (mt : ∀ x, Mono (Wt x)) (me : ∀ x, Mono (We x)) : ∀ (xs : List α) (acc : List β), Mono (lcW Wt We xs acc)
  | [], acc => fun _ _ k q => k _ q
  | x :: xs, acc => fun Q Q' k q => mt x _ _ (fun b q => by
    cases b with
    | true => exact me x _ _ (fun y q => lcW_mono mt me xs _ _ _ k q) q
    | false => exact lcW_mono mt me xs _ _ _ k q) q
theorem lcW_pure {Pt : α → Prop} {bt : α → Bool} {Pe : α → Prop} {f : α → β} : ∀ (xs : List α) (acc : List β) (Q : List β → Prop), (∀ x ∈ xs, Pt x ∧ (bt x = true → Pe x)) → Q (acc ++ (xs.filter bt).map f) → lcW (fun x => Wp (Pt x) (bt x)) (fun x => Wp (Pe x) (f x)) xs acc Q
  | [], acc, Q, _, q => by simpa [lcW] using q
  | x :: xs, acc, Q, h, q => by
    obtain ⟨h1, h2⟩ := h x List.mem_cons_self
    refine ⟨h1, ?_⟩
    by_cases hb : bt x = true
    · show if bt x = true then _ else _
      rw [if_pos hb]
      refine ⟨h2 hb, lcW_pure xs _ Q (fun y hy => h y (List.mem_cons_of_mem _ hy)) ?_⟩
      rw [List.filter_cons_of_pos hb, List.map_cons] at q
      simpa using q
    · show if bt x = true then _ else _
      rw [if_neg hb]
      refine lcW_pure xs _ Q (fun y hy => h y (List.mem_cons_of_mem _ hy)) ?_
      rw [List.filter_cons_of_neg hb] at q
      exact q
theorem PE.ex {X : Cx} {e : Expr} {ι : Type} {t : ι → TE} (h : ∀ i, PE X e (t i)) : PE X e (fun σ H Q => ∃ i, t i σ H Q) := ⟨fun pins s σ H Q I ⟨i, q⟩ => (h i).run pins s σ H Q I q⟩
theorem PTs.ex {X : Cx} {e : List Expr} {ι : Type} {t : ι → TT} (h : ∀ i, PTs X e (t i)) : PTs X e (fun σ H Q => ∃ i, t i σ H Q) := ⟨fun pins s σ H Q I ⟨i, q⟩ => (h i).run pins s σ H Q I q⟩
/-- what pe_lc's reading asks -/
theorem lc_ok {W : (List α → Prop) → Prop} {Wt : α → (Bool → Prop) → Prop} {We : α → (β → Prop) → Prop} (mW : Mono W) (mt : ∀ x, Mono (Wt x)) (me : ∀ x, Mono (We x)) {vs : List Nat} {g : TG} {Γe : α → List LD} (ct : CT c Γ vs m1 g Γe) (nm : m ≠ .any)
    {σ : L2.St} {H : Hp} {Q : VK} (h : ∃ Z S, Rep c Z S H σ Γ ∧ W fun xs => lcW Wt We xs [] fun ys => ∀ l us H', Evo (fa c) H H' → Rep c Z S H' σ Γ → H l = none → H' l = some (.lst us) → us.length ≤ sizeLine → DAs (fun a => Rg c (Mo c Z S) m a ∧ a ≠ l) H' us (ys.map enc) → Q (.ref l) H') :
    tLc (tWI c Γ k m1 W) g (fun σ H Q => ∃ x, tWT c (Γe x) (Wt x) σ H Q) (fun σ H Q => ∃ x, tW c (Γe x) m (We x) σ H Q) vs σ H Q := by
  obtain ⟨Z, S, R, w⟩ := h
  refine ⟨Z, S, R, mW _ _ (fun xs w J H1 ev1 R1 hz yl D nD => ?_) w⟩
  have nD0 : H D = none := by
    rcases ev1.free nD with z | z
    · exact z
    · exact absurd (mo_fa z) (R1.dom D nD).2
  refine ⟨fun i n H2 => n = xs.length - i ∧ i ≤ xs.length ∧ ∃ (ys : List β) (us : List V), (lcW Wt We (xs.drop i) ys fun ys => ∀ l us H', Evo (fa c) H H' → Rep c Z S H' σ Γ → H l = none → H' l = some (.lst us) → us.length ≤ sizeLine → DAs (fun a => Rg c (Mo c Z S) m a ∧ a ≠ l) H' us (ys.map enc) → Q (.ref l) H') ∧
    H2 D = some (.lst us) ∧ us.length ≤ i ∧ DAs (Rg c (Mo c (plus Z D) S) m) H2 us (ys.map enc) ∧ Rep c (plus Z D) S H2 σ Γ ∧ Evo (fa c) H1 H2, ⟨xs.length, by simp, Nat.zero_le _, [], [], by simpa using w, upd_same, Nat.le_refl _, .nil, R1.aside nD, .of_same (same_new nD)⟩, ?_⟩
  rintro i n H2 ⟨rfl, hi, ys, us, w, hD, hu, hs, R2, ev2⟩
  have evM : Evo (Mk' c (Mo c Z S) k) H1 H2 := ev2.mono fun a z => by
    cases k with
    | true => exact z
    | false => exact mo_fa z
  obtain ⟨y1, y2⟩ := yl H2 evM
  by_cases hlt : i < xs.length
  · right
    have ex : (xs.map enc)[i]? = some (enc xs[i]) := by rw [List.getElem?_map, List.getElem?_eq_getElem hlt]; rfl
    obtain ⟨go, yy⟩ := y1 i _ ex
    rw [List.drop_eq_getElem_cons hlt] at w
    refine ⟨go, fun H' => ∃ (ys : List β) (us : List V), (lcW Wt We (xs.drop (i + 1)) ys fun ys => ∀ l us H', Evo (fa c) H H' → Rep c Z S H' σ Γ → H l = none → H' l = some (.lst us) → us.length ≤ sizeLine → DAs (fun a => Rg c (Mo c Z S) m a ∧ a ≠ l) H' us (ys.map enc) → Q (.ref l) H') ∧
      H' D = some (.lst us) ∧ us.length ≤ i + 1 ∧ DAs (Rg c (Mo c (plus Z D) S) m) H' us (ys.map enc) ∧ Rep c (plus Z D) S H' σ Γ ∧ Evo (fa c) H1 H', fun H' p => ⟨_, by omega, rfl, hlt, p⟩, fun v H3 y => ?_⟩
    obtain ⟨sm3, d3⟩ := yy v H3 y
    have R3 := R2.same sm3
    have d3' : DA (Rg c (Mo c (plus Z D) S) m1) H3 v (enc xs[i]) := DA.map (fun a us ha r => ⟨by
      obtain ⟨ha, o, ho⟩ := ha
      exact rg_plus (ne_of_none ho nD) m1 ha, r⟩) (fun _ _ r => r) _ d3
    refine ct.run _ _ H3 σ v xs[i] _ R3 d3' fun σ2 R4 hw => ⟨hw, xs[i], _, S, R4, mt _ _ _ (fun b w H5 ev5 R5 => ?_) w⟩
    -- back to the env
    have back : ∀ {H6 : Hp}, Evo (fa c) H3 H6 → Rep c (plus Z D) S H6 σ2 (Γe xs[i]) → Rep c (plus Z D) S H6 σ Γ := fun ev R' => R3.step ev fun F q => (R'.feed F q).1
    have nfD : ¬ fa c D := fun f => (R1.dom D nD).2 (mo_fa f)
    cases b with
    | false =>
      rw [if_neg Bool.false_ne_true] at w
      exact iteF ⟨ys, us, w, ev5 D _ (.inl nfD) (sm3 _ _ hD), Nat.le_succ_of_le hu, (hs.evo (M := fun _ => False) (.of_same sm3) (fun _ _ z => z) fun _ _ _ z => z).evo ev5 (rg_nfa (fun a => mo_fa) m) fun _ _ _ z => z, back ev5 R5, (ev2.trans (.of_same sm3) fun a z => .inl z).trans ev5 fun a z => .inl z⟩
    | true =>
      rw [if_pos rfl] at w
      refine iteT ⟨xs[i], _, S, R5, me _ _ _ (fun y w u H6 ev6 R6 d6 => ?_) w⟩
      have ev36 : Evo (fa c) H3 H6 := ev5.trans ev6 fun a z => .inl z
      have hD6 : H6 D = some (.lst us) := ev36 D _ (.inl nfD) (sm3 _ _ hD)
      have hs6 : DAs (Rg c (Mo c (plus Z D) S) m) H6 us (ys.map enc) := (hs.evo (M := fun _ => False) (.of_same sm3) (fun _ _ z => z) fun _ _ _ z => z).evo ev36 (rg_nfa (fun a => mo_fa) m) fun _ _ _ z => z
      have R6' := back ev36 R6
      refine ⟨us, hD6, by omega, ys ++ [y], us ++ [u], w, upd_same, by rw [List.length_append, List.length_singleton]; omega, ?_, R6'.putZ (.inr rfl) hD6, fun a o q e => ?_⟩
      · rw [List.map_append]
        have all := hs6.append (.cons d6 .nil)
        exact all.evo (evo_put hD6) (fun a ha' z => rg_nm nm a ha' (.inl (.inr z))) fun _ _ _ z => z
      · have e6 := ((ev2.trans (.of_same sm3) fun a z => .inl z).trans ev36 fun a z => .inl z) a o q e
        rw [upd_ne (ne_of_none e nD)]
        exact e6
  · left
    have e : i = xs.length := by omega
    subst e
    rw [List.drop_length] at w
    refine ⟨by simpa using y2, ?_⟩
    have nMD : ∀ a, Mo c Z S a → Mo c (plus Z D) S a := fun a z => z.imp .inl id
    refine w D us H2 (ev1.trans ev2 fun a z => .inl z) (R2.less fun a z => .inl z) nD0 hD (Nat.le_trans hu hz) (DAs.map (fun a vs ha r => ⟨⟨rg_sub nMD m a ha, fun e => ?_⟩, r⟩) (fun _ _ r => r) _ hs)
    subst e
    exact rg_nm nm _ ha (.inl (.inr rfl))
end
end DL

namespace DL
open PySem PySem.Spec PyProof.Rows L2
open Enc (enc)
section
variable {α β γ δ ρ : Type} [Enc α] [Enc β] [Enc γ] [Enc δ] [Enc ρ]
variable {X : Cx} {c : Cf} {Γ Γ' : List LD} {m m' m1 m2 : Rk} {e e1 e2 e3 e4 tg : Expr} {es : List Expr} {pos p p2 : Pos} {k k1 : Bool}
abbrev Bk (X : Cx) (scope : Scope) (s : Shared) (H : Hp) (C : Addr) (cl : List (Str × Addr)) (fp : List Addr) : Cx := X.blk s H scope (compEnvC scope cl C X.env) fp
/-- [elt for tg in it if ..]: a new list -/
theorem wn_lc {elt it : Expr} {ifs : List Expr} {scope : Scope} {own : List (Str × Nat)} {g : TG} {W : (List α → Prop) → Prop} {Wt : α → (Bool → Prop) → Prop} {We : α → (β → Prop) → Prop} {Γe : α → List LD}
    (hc : X.calm = true) (hN : X.N.Nodup) (ok : BlkOk X.N X.env.scope scope own) (hi : WI X c Γ k m1 tg it W) (ct : CT c Γ (own.map (·.2)) m1 g Γe) (hg : ∀ s H C cl fp, PG (Bk X scope s H C cl fp) tg g)
    (ht : ∀ x s H C cl fp, WTs (Bk X scope s H C cl fp) c (Γe x) ifs (Wt x)) (he : ∀ x s H C cl fp, WX (Bk X scope s H C cl fp) c (Γe x) m elt (We x)) (nm : m ≠ .any := by decide) (hs : ∀ x, foldedSetIterable it X.env x = pure x := by intro _; rfl) :
    WN X c Γ m (.ListComp elt [⟨tg, it, ifs, 0⟩] scope pos) (fun Q => W fun xs => lcW Wt We xs [] Q) := by
  have mt : ∀ x, Mono (Wt x) := fun x => (ht x {} (fun _ => none) 0 [] []).mo
  have me : ∀ x, Mono (We x) := fun x => (he x {} (fun _ => none) 0 [] []).mo
  exact ⟨fun _ _ k w => hi.mo _ _ (fun xs w => lcW_mono mt me xs [] _ _ k w) w, PE.mono (pe_lc hc hN hi.run ok hg (fun s H C cl fp => PTs.ex fun x => (ht x s H C cl fp).run) (fun s H C cl fp => PE.ex fun x => (he x s H C cl fp).run) hs) fun σ H Q h => lc_ok hi.mo mt me ct nm h⟩
theorem WN.imp {W W' : (List α → Prop) → Prop} (h : WN X c Γ m e W) (q : ∀ Q, W' Q → W Q) (mo : Mono W') : WN X c Γ m e W' := ⟨mo, PE.mono h.2 fun σ H Q ⟨Z, S, R, w⟩ => ⟨Z, S, R, q _ w⟩⟩
theorem pn_lc {elt it : Expr} {ifs : List Expr} {scope : Scope} {own : List (Str × Nat)} {g : TG} {P : Prop} {xs : List α} {Pt : α → Prop} {bt : α → Bool} {Pe : α → Prop} {f : α → β} {Γe : α → List LD}
    (hc : X.calm = true) (hN : X.N.Nodup) (ok : BlkOk X.N X.env.scope scope own) (hi : WI X c Γ k m1 tg it (Wp P xs)) (ct : CT c Γ (own.map (·.2)) m1 g Γe) (hg : ∀ s H C cl fp, PG (Bk X scope s H C cl fp) tg g)
    (ht : ∀ x s H C cl fp, WTs (Bk X scope s H C cl fp) c (Γe x) ifs (Wp (Pt x) (bt x))) (he : ∀ x s H C cl fp, WX (Bk X scope s H C cl fp) c (Γe x) m elt (Wp (Pe x) (f x))) (nm : m ≠ .any := by decide) (hs : ∀ x, foldedSetIterable it X.env x = pure x := by intro _; rfl) :
    WN X c Γ m (.ListComp elt [⟨tg, it, ifs, 0⟩] scope pos) (Wp (P ∧ ∀ x ∈ xs, Pt x ∧ (bt x = true → Pe x)) ((xs.filter bt).map f)) :=
  (wn_lc hc hN ok hi ct hg ht he nm hs).imp (fun Q q => ⟨q.1.1, lcW_pure xs [] Q q.1.2 (by simpa using q.2)⟩) mono_wp
/-- .. without a test -/
theorem pn_lc0 {elt it : Expr} {scope : Scope} {own : List (Str × Nat)} {g : TG} {P : Prop} {xs : List α} {Pe : α → Prop} {f : α → β} {Γe : α → List LD}
    (hc : X.calm = true) (hN : X.N.Nodup) (ok : BlkOk X.N X.env.scope scope own) (hi : WI X c Γ k m1 tg it (Wp P xs)) (ct : CT c Γ (own.map (·.2)) m1 g Γe) (hg : ∀ s H C cl fp, PG (Bk X scope s H C cl fp) tg g)
    (he : ∀ x s H C cl fp, WX (Bk X scope s H C cl fp) c (Γe x) m elt (Wp (Pe x) (f x))) (nm : m ≠ .any := by decide) (hs : ∀ x, foldedSetIterable it X.env x = pure x := by intro _; rfl) :
    WN X c Γ m (.ListComp elt [⟨tg, it, [], 0⟩] scope pos) (Wp (P ∧ ∀ x ∈ xs, Pe x) (xs.map f)) :=
  (pn_lc hc hN ok hi ct hg (fun x s H C cl fp => wts_nil) he nm hs).imp (fun Q q => ⟨⟨q.1.1, fun x hx => ⟨trivial, fun _ => q.1.2 x hx⟩⟩, by
    rw [List.filter_eq_self.mpr (fun _ _ => rfl)]
    exact q.2⟩) mono_wp
/-- .. whose element is the item: a filter -/
theorem pn_lcf {elt it : Expr} {ifs : List Expr} {scope : Scope} {own : List (Str × Nat)} {g : TG} {P : Prop} {xs : List α} {Pt : α → Prop} {bt : α → Bool} {Γe : α → List LD}
    (hc : X.calm = true) (hN : X.N.Nodup) (ok : BlkOk X.N X.env.scope scope own) (hi : WI X c Γ k m1 tg it (Wp P xs)) (ct : CT c Γ (own.map (·.2)) m1 g Γe) (hg : ∀ s H C cl fp, PG (Bk X scope s H C cl fp) tg g)
    (ht : ∀ x s H C cl fp, WTs (Bk X scope s H C cl fp) c (Γe x) ifs (Wp (Pt x) (bt x))) (he : ∀ x s H C cl fp, WX (Bk X scope s H C cl fp) c (Γe x) m elt (Wp True x)) (nm : m ≠ .any := by decide) (hs : ∀ x, foldedSetIterable it X.env x = pure x := by intro _; rfl) :
    WN X c Γ m (.ListComp elt [⟨tg, it, ifs, 0⟩] scope pos) (Wp (P ∧ ∀ x ∈ xs, Pt x) (xs.filter bt)) :=
  (pn_lc (f := fun x => x) (Pe := fun _ => True) hc hN ok hi ct hg ht he nm hs).imp (fun Q q => ⟨⟨q.1.1, fun x hx => ⟨q.1.2 x hx, fun _ => trivial⟩⟩, by
    rw [List.map_id']
    exact q.2⟩) mono_wp

/-! ### two fors -/
def lcZ (Wt : α → (Bool → Prop) → Prop) (We : α → (β → Prop) → Prop) : List α → List β → (List β → Prop) → Prop
  | [], acc, Q => Q acc
  | x :: xs, acc, Q => Wt x fun b => if b = true then We x fun y => acc.length < sizeLine ∧ lcZ Wt We xs (acc ++ [y]) Q else lcZ Wt We xs acc Q
theorem lcZ_mono {Wt : α → (Bool → Prop) → Prop} {We : α → (β → Prop) → Prop} (mt : ∀ x, Mono (Wt x)) (me : ∀ x, Mono (We x)) : ∀ (xs : List α) (acc : List β), Mono (lcZ Wt We xs acc)
  | [], acc => fun _ _ k q => k _ q
  | x :: xs, acc => fun Q Q' k q => mt x _ _ (fun b q => by
    cases b with
    | true => exact me x _ _ (fun y q => ⟨q.1, lcZ_mono mt me xs _ _ _ k q.2⟩) q
    | false => exact lcZ_mono mt me xs _ _ _ k q) q
theorem lcZ_pure {Pt : α → Prop} {bt : α → Bool} {Pe : α → Prop} {f : α → β} : ∀ (xs : List α) (acc : List β) (Q : List β → Prop), (∀ x ∈ xs, Pt x ∧ (bt x = true → Pe x)) → (acc ++ (xs.filter bt).map f).length ≤ sizeLine → Q (acc ++ (xs.filter bt).map f) → lcZ (fun x => Wp (Pt x) (bt x)) (fun x => Wp (Pe x) (f x)) xs acc Q
  | [], acc, Q, _, _, q => by simpa [lcZ] using q
  | x :: xs, acc, Q, h, z, q => by
    obtain ⟨h1, h2⟩ := h x List.mem_cons_self
    refine ⟨h1, ?_⟩
    by_cases hb : bt x = true
    · show if bt x = true then _ else _
      rw [if_pos hb]
      rw [List.filter_cons_of_pos hb, List.map_cons] at q z
      refine ⟨h2 hb, ?_, lcZ_pure xs _ Q (fun y hy => h y (List.mem_cons_of_mem _ hy)) (by simpa using z) (by simpa using q)⟩
      rw [List.length_append, List.length_cons] at z
      omega
    · show if bt x = true then _ else _
      rw [if_neg hb]
      rw [List.filter_cons_of_neg hb] at q z
      exact lcZ_pure xs _ Q (fun y hy => h y (List.mem_cons_of_mem _ hy)) z q
/-- a loop that puts to the list at D -/
structure LI (c : Cf) (m : Rk) (Z : Rgn) (S : Nat → Rgn) (σ : L2.St) (Γ : List LD) (D : Addr) (H1 : Hp) (ys : List β) (us : List V) (H : Hp) : Prop where
  at_ : H D = some (.lst us)
  dat : DAs (Rg c (Mo c Z S) m) H us (ys.map enc)
  rep : Rep c Z S H σ Γ
  evo : Evo (fun a => fa c a ∨ a = D) H1 H
  sz : us.length ≤ sizeLine
theorem lc_loop {Wt : α → (Bool → Prop) → Prop} {We : α → (β → Prop) → Prop} (mt : ∀ x, Mono (Wt x)) (me : ∀ x, Mono (We x)) {vs : List Nat} {g : TG} {Γe : α → List LD} (ct : CT c Γ vs m1 g Γe) (nm : m ≠ .any) {tt : TT} {te : TE} (htt : ∀ x σ H Q, tWT c (Γe x) (Wt x) σ H Q → tt σ H Q) (hte : ∀ x σ H Q, tW c (Γe x) m (We x) σ H Q → te σ H Q)
    {Z : Rgn} {S : Nat → Rgn} {D : Addr} {σ : L2.St} {H1 : Hp} {J : It} {xs : List α} {M : Rgn} (hM : ∀ a, fa c a ∨ a = D → M a) (hMo : ∀ a, M a → Mo c Z S a) (zD : Z D)
    (yl : Yl M (Rg c (Mo c Z S) m1) J H1 (xs.map enc)) {ys0 : List β} {us0 : List V} (hz : us0.length = ys0.length) (inv : LI c m Z S σ Γ D H1 ys0 us0 H1) {Nx : Hp → Prop}
    (w : lcZ Wt We xs ys0 fun ys => ∀ us H', us.length = ys.length → LI c m Z S σ Γ D H1 ys us H' → Nx H') :
    ∃ W1 : Nat → Nat → Hp → Prop, (∃ m, W1 0 m H1) ∧ ∀ j k H, W1 j k H → (J.stop j H ∧ Nx H) ∨ (J.go j H ∧ ∃ Nx1 : Hp → Prop, (∀ H', Nx1 H' → ∃ k', k' < k ∧ W1 (j + 1) k' H') ∧ ∀ x H', J.yld j H x H' → g x (L2.wipe σ vs) H' fun σ3 H5 => L2.wipe σ3 vs = L2.wipe σ vs ∧
      tt σ3 H5 fun b H6 => if b = true then te σ3 H6 fun y H7 => ∃ acc, H7 D = some (.lst acc) ∧ acc.length < sizeLine ∧ Nx1 (upd H7 D (.lst (acc ++ [y]))) else Nx1 H6) := by
  refine ⟨fun i n H2 => n = xs.length - i ∧ i ≤ xs.length ∧ ∃ (ys : List β) (us : List V), us.length = ys.length ∧ (lcZ Wt We (xs.drop i) ys fun ys => ∀ us H', us.length = ys.length → LI c m Z S σ Γ D H1 ys us H' → Nx H') ∧ LI c m Z S σ Γ D H1 ys us H2,
    ⟨xs.length, by simp, Nat.zero_le _, ys0, us0, hz, by simpa using w, inv⟩, ?_⟩
  rintro i n H2 ⟨rfl, hi, ys, us, hl, w, I2⟩
  obtain ⟨y1, y2⟩ := yl H2 (I2.evo.mono hM)
  by_cases hlt : i < xs.length
  · right
    have ex : (xs.map enc)[i]? = some (enc xs[i]) := by rw [List.getElem?_map, List.getElem?_eq_getElem hlt]; rfl
    obtain ⟨go, yy⟩ := y1 i _ ex
    rw [List.drop_eq_getElem_cons hlt] at w
    refine ⟨go, fun H' => ∃ (ys : List β) (us : List V), us.length = ys.length ∧ (lcZ Wt We (xs.drop (i + 1)) ys fun ys => ∀ us H', us.length = ys.length → LI c m Z S σ Γ D H1 ys us H' → Nx H') ∧ LI c m Z S σ Γ D H1 ys us H', fun H' p => ⟨_, by omega, rfl, hlt, p⟩, fun v H3 y => ?_⟩
    obtain ⟨sm3, d3⟩ := yy v H3 y
    have R3 := I2.rep.same sm3
    have d3' : DA (Rg c (Mo c Z S) m1) H3 v (enc xs[i]) := DA.map (fun a us ha r => ⟨ha.1, r⟩) (fun _ _ r => r) _ d3
    have nfD : ¬ fa c D := I2.rep.zf D zD
    refine ct.run _ _ H3 σ v xs[i] _ R3 d3' fun σ2 R4 hw => ⟨hw, htt xs[i] _ _ _ ⟨_, S, R4, mt _ _ _ (fun b w H5 ev5 R5 => ?_) w⟩⟩
    have back : ∀ {H6 : Hp}, Evo (fa c) H3 H6 → Rep c Z S H6 σ2 (Γe xs[i]) → Rep c Z S H6 σ Γ := fun ev R' => R3.step ev fun F q => (R'.feed F q).1
    have dat : ∀ {H6 : Hp}, Evo (fa c) H3 H6 → DAs (Rg c (Mo c Z S) m) H6 us (ys.map enc) := fun ev => (I2.dat.evo (M := fun _ => False) (.of_same sm3) (fun _ _ z => z) fun _ _ _ z => z).evo ev (rg_nfa (fun a => mo_fa) m) fun _ _ _ z => z
    have evo : ∀ {H6 : Hp}, Evo (fa c) H3 H6 → Evo (fun a => fa c a ∨ a = D) H1 H6 := fun ev => (I2.evo.trans (.of_same sm3) fun a z => .inl z).trans (ev.mono fun a z => .inl z) fun a z => .inl z
    cases b with
    | false =>
      rw [if_neg Bool.false_ne_true] at w
      exact iteF ⟨ys, us, hl, w, ⟨ev5 D _ (.inl nfD) (sm3 _ _ I2.at_), dat ev5, back ev5 R5, evo ev5, I2.sz⟩⟩
    | true =>
      rw [if_pos rfl] at w
      refine iteT (hte xs[i] _ _ _ ⟨_, S, R5, me _ _ _ (fun y w u H6 ev6 R6 d6 => ?_) w⟩)
      have ev36 : Evo (fa c) H3 H6 := ev5.trans ev6 fun a z => .inl z
      have hD6 : H6 D = some (.lst us) := ev36 D _ (.inl nfD) (sm3 _ _ I2.at_)
      refine ⟨us, hD6, by rw [hl]; exact w.1, ys ++ [y], us ++ [u], by rw [List.length_append, List.length_append, hl]; rfl, w.2, ⟨upd_same, ?_, (back ev36 R6).putZ zD hD6, fun a o q e => ?_, by rw [List.length_append, List.length_singleton, hl]; exact w.1⟩⟩
      · rw [List.map_append]
        exact ((dat ev36).append (.cons d6 .nil)).evo (evo_put hD6) (fun a ha' z => rg_nm nm a ha' (.inl (by rw [z]; exact zD))) fun _ _ _ z => z
      · have e6 := evo ev36 a o q e
        rw [upd_ne (fun z => by
          subst z
          rw [e6] at hD6
          cases hD6
          rcases q with q | q
          · exact q (.inr rfl)
          · cases q)]
        exact e6
  · left
    have e : i = xs.length := by omega
    subst e
    rw [List.drop_length] at w
    exact ⟨by simpa using y2, w us H2 hl I2⟩
/-- what two fors make -/
def lc2W (Wi : α → (List β → Prop) → Prop) (Wt : α → β → (Bool → Prop) → Prop) (We : α → β → (γ → Prop) → Prop) : List α → List γ → (List γ → Prop) → Prop
  | [], acc, Q => Q acc
  | x :: xs, acc, Q => Wi x fun ys => lcZ (Wt x) (We x) ys acc fun acc' => lc2W Wi Wt We xs acc' Q
theorem lc2W_mono {Wi : α → (List β → Prop) → Prop} {Wt : α → β → (Bool → Prop) → Prop} {We : α → β → (γ → Prop) → Prop} (mi : ∀ x, Mono (Wi x)) (mt : ∀ x y, Mono (Wt x y)) (me : ∀ x y, Mono (We x y)) : ∀ (xs : List α) (acc : List γ), Mono (lc2W Wi Wt We xs acc)
  | [], acc => fun _ _ k q => k _ q
  | x :: xs, acc => fun Q Q' k q => mi x _ _ (fun ys q => lcZ_mono (mt x) (me x) ys acc _ _ (fun a q => lc2W_mono mi mt me xs a _ _ k q) q) q
theorem lc2W_pure {Pi : α → Prop} {ys : α → List β} {Pt : α → β → Prop} {bt : α → β → Bool} {Pe : α → β → Prop} {f : α → β → γ} : ∀ (xs : List α) (acc : List γ) (Q : List γ → Prop), (∀ x ∈ xs, Pi x ∧ ∀ y ∈ ys x, Pt x y ∧ (bt x y = true → Pe x y)) →
    (acc ++ xs.flatMap fun x => ((ys x).filter (bt x)).map (f x)).length ≤ sizeLine → Q (acc ++ xs.flatMap fun x => ((ys x).filter (bt x)).map (f x)) → lc2W (fun x => Wp (Pi x) (ys x)) (fun x y => Wp (Pt x y) (bt x y)) (fun x y => Wp (Pe x y) (f x y)) xs acc Q
  | [], acc, Q, _, _, q => by simpa [lc2W] using q
  | x :: xs, acc, Q, h, z, q => by
    obtain ⟨h1, h2⟩ := h x List.mem_cons_self
    rw [List.flatMap_cons, ← List.append_assoc] at z q
    refine ⟨h1, lcZ_pure (ys x) acc _ h2 ?_ (lc2W_pure xs _ Q (fun y hy => h y (List.mem_cons_of_mem _ hy)) z q)⟩
    rw [List.length_append] at z
    omega
theorem PI.ex {X : Cx} {tg e : Expr} {ι : Type} {t : ι → TI} (h : ∀ i, PI X tg e (t i)) : PI X tg e (fun σ H Q => ∃ i, t i σ H Q) := ⟨fun pins s σ H Q I ⟨i, q⟩ => (h i).run pins s σ H Q I q⟩
theorem lc2_ok {W : (List α → Prop) → Prop} {Wi : α → (List β → Prop) → Prop} {Wt : α → β → (Bool → Prop) → Prop} {We : α → β → (γ → Prop) → Prop} (mW : Mono W) (mi : ∀ x, Mono (Wi x)) (mt : ∀ x y, Mono (Wt x y)) (me : ∀ x y, Mono (We x y)) {vs vs1 : List Nat} {g g1 : TG} {Γe : α → List LD}
    {Γf : α → β → List LD} (ct : CT c Γ vs m1 g Γe) (ct1 : ∀ x, CT c (Γe x) vs1 m2 g1 (Γf x)) (nm : m ≠ .any) (nm1 : m1 ≠ .any) (nm2 : m2 ≠ .any)
    {σ : L2.St} {H : Hp} {Q : VK} (h : ∃ Z S, Rep c Z S H σ Γ ∧ W fun xs => lc2W Wi Wt We xs [] fun ys => ∀ l us H', Evo (fa c) H H' → Rep c Z S H' σ Γ → H l = none → H' l = some (.lst us) → us.length ≤ sizeLine → DAs (fun a => Rg c (Mo c Z S) m a ∧ a ≠ l) H' us (ys.map enc) → Q (.ref l) H') :
    tLc2 (tWI c Γ k m1 W) g tYes (fun σ H Q => ∃ x, tWI c (Γe x) false m2 (Wi x) σ H Q) g1 (fun σ H Q => ∃ z : α × β, tWT c (Γf z.1 z.2) (Wt z.1 z.2) σ H Q) (fun σ H Q => ∃ z : α × β, tW c (Γf z.1 z.2) m (We z.1 z.2) σ H Q) vs vs1 σ H Q := by
  obtain ⟨Z, S, R, w⟩ := h
  refine ⟨Z, S, R, mW _ _ (fun xs w J H1 ev1 R1 hz yl D nD => ?_) w⟩
  have nD0 : H D = none := by
    rcases ev1.free nD with z | z
    · exact z
    · exact absurd (mo_fa z) (R1.dom D nD).2
  have nfD : ¬ fa c D := fun f => (R1.dom D nD).2 (mo_fa f)
  refine ⟨fun i n H2 => n = xs.length - i ∧ i ≤ xs.length ∧ ∃ (ys : List γ) (us : List V), us.length = ys.length ∧ (lc2W Wi Wt We (xs.drop i) ys fun ys => ∀ l us H', Evo (fa c) H H' → Rep c Z S H' σ Γ → H l = none → H' l = some (.lst us) → us.length ≤ sizeLine → DAs (fun a => Rg c (Mo c Z S) m a ∧ a ≠ l) H' us (ys.map enc) → Q (.ref l) H') ∧
    H2 D = some (.lst us) ∧ us.length ≤ sizeLine ∧ DAs (Rg c (Mo c (plus Z D) S) m) H2 us (ys.map enc) ∧ Rep c (plus Z D) S H2 σ Γ ∧ Evo (fa c) H1 H2, ⟨xs.length, by simp, Nat.zero_le _, [], [], rfl, by simpa using w, upd_same, Nat.zero_le _, .nil, R1.aside nD, .of_same (same_new nD)⟩, ?_⟩
  rintro i n H2 ⟨rfl, hi, ys, us, hl, w, hD, hu, hs, R2, ev2⟩
  have evM : Evo (Mk' c (Mo c Z S) k) H1 H2 := ev2.mono fun a z => by
    cases k with
    | true => exact z
    | false => exact mo_fa z
  obtain ⟨y1, y2⟩ := yl H2 evM
  by_cases hlt : i < xs.length
  · right
    have ex : (xs.map enc)[i]? = some (enc xs[i]) := by rw [List.getElem?_map, List.getElem?_eq_getElem hlt]; rfl
    obtain ⟨go, yy⟩ := y1 i _ ex
    rw [List.drop_eq_getElem_cons hlt] at w
    refine ⟨go, fun H' => ∃ (ys : List γ) (us : List V), us.length = ys.length ∧ (lc2W Wi Wt We (xs.drop (i + 1)) ys fun ys => ∀ l us H', Evo (fa c) H H' → Rep c Z S H' σ Γ → H l = none → H' l = some (.lst us) → us.length ≤ sizeLine → DAs (fun a => Rg c (Mo c Z S) m a ∧ a ≠ l) H' us (ys.map enc) → Q (.ref l) H') ∧
      H' D = some (.lst us) ∧ us.length ≤ sizeLine ∧ DAs (Rg c (Mo c (plus Z D) S) m) H' us (ys.map enc) ∧ Rep c (plus Z D) S H' σ Γ ∧ Evo (fa c) H1 H', fun H' p => ⟨_, by omega, rfl, hlt, p⟩, fun v H3 y => ?_⟩
    obtain ⟨sm3, d3⟩ := yy v H3 y
    have R3 := R2.same sm3
    have d3' : DA (Rg c (Mo c (plus Z D) S) m1) H3 v (enc xs[i]) := DA.map (fun a us ha r => ⟨by
      obtain ⟨ha, o, ho⟩ := ha
      exact rg_plus (ne_of_none ho nD) m1 ha, r⟩) (fun _ _ r => r) _ d3
    refine ct.run _ _ H3 σ v xs[i] _ R3 d3' fun σ2 R4 hw => ⟨hw, ?_⟩
    dsimp only [tYes]
    rw [if_pos rfl]
    refine ⟨xs[i], _, S, R4, mi _ _ _ (fun zs w J1 H4 ev4 R4' hz4 yl4 => ?_) w⟩
    have back : ∀ {H6 : Hp}, Rep c (plus Z D) S H6 σ2 (Γe xs[i]) → Evo (fun a => fa c a ∨ a = D) H3 H6 → Rep c (plus Z D) S H6 σ Γ := fun R' ev => by
      refine ⟨fun j l q => (R3.slot j l q).map (fun m a us nm ha r => ⟨ha, ev a _ (.inl fun z => ?_) r⟩) (fun a us ha r => ⟨ha, ev a _ (.inl fun z => ?_) r⟩) (fun a xs r => ev a _ (.inr rfl) r), R3.disj, R3.zs, R'.dom, R'.feed, R3.len, R3.zf⟩
      · rcases z with z | z
        · exact rg_nm nm a ha (mo_fa z)
        · exact rg_nm nm a ha (.inl (.inr z))
      · rcases z with z | z
        · exact (R3.zs j a ha).2 z
        · exact (R3.zs j a ha).1 (.inr z)
    have I4 : LI c m (plus Z D) S σ2 (Γe xs[i]) D H4 ys us H4 := ⟨ev4 D _ (.inl nfD) (sm3 _ _ hD), (hs.evo (M := fun _ => False) (.of_same sm3) (fun _ _ z => z) fun _ _ _ z => z).evo ev4 (rg_nfa (fun a => mo_fa) m) fun _ _ _ z => z, R4', .refl _ _, hu⟩
    refine lc_loop (tt := fun σ H Q => ∃ z : α × β, tWT c (Γf z.1 z.2) (Wt z.1 z.2) σ H Q) (te := fun σ H Q => ∃ z : α × β, tW c (Γf z.1 z.2) m (We z.1 z.2) σ H Q) (Nx := fun H' => ∃ (ys : List γ) (us : List V), us.length = ys.length ∧ (lc2W Wi Wt We (xs.drop (i + 1)) ys fun ys => ∀ l us H', Evo (fa c) H H' → Rep c Z S H' σ Γ → H l = none → H' l = some (.lst us) → us.length ≤ sizeLine → DAs (fun a => Rg c (Mo c Z S) m a ∧ a ≠ l) H' us (ys.map enc) → Q (.ref l) H') ∧ H' D = some (.lst us) ∧ us.length ≤ sizeLine ∧ DAs (Rg c (Mo c (plus Z D) S) m) H' us (ys.map enc) ∧ Rep c (plus Z D) S H' σ Γ ∧ Evo (fa c) H1 H') (mt xs[i]) (me xs[i]) (ct1 xs[i]) nm (fun y σ H Q h => ⟨(xs[i], y), h⟩) (fun y σ H Q h => ⟨(xs[i], y), h⟩) (M := Mo c (plus Z D) S) (fun a z => ?_) (fun _ z => z) (.inr rfl) yl4 hl I4
      (lcZ_mono (mt xs[i]) (me xs[i]) zs ys _ _ (fun ys' w us' H' hl' I' => ⟨ys', us', hl', w, I'.at_, I'.sz, I'.dat, back I'.rep ((ev4.mono fun a z => .inl z).trans I'.evo fun a z => .inl z), fun a o q e => ?_⟩) w)
    · rcases z with z | z
      · exact mo_fa z
      · exact .inl (.inr z)
    · refine (((ev2.trans (.of_same sm3) fun a z => .inl z).trans ev4 fun a z => .inl z).mono fun a z => .inl z).trans I'.evo (fun a z => .inl z) a o (q.imp (fun z y => ?_) id) e
      rcases y with y | y
      · exact z y
      · subst y
        rw [nD] at e
        cases e
  · left
    have e : i = xs.length := by omega
    subst e
    rw [List.drop_length] at w
    refine ⟨by simpa using y2, ?_⟩
    have nMD : ∀ a, Mo c Z S a → Mo c (plus Z D) S a := fun a z => z.imp .inl id
    refine w D us H2 (ev1.trans ev2 fun a z => .inl z) (R2.less fun a z => .inl z) nD0 hD hu (DAs.map (fun a vs ha r => ⟨⟨rg_sub nMD m a ha, fun e => ?_⟩, r⟩) (fun _ _ r => r) _ hs)
    subst e
    exact rg_nm nm _ ha (.inl (.inr rfl))
end
end DL

namespace DL
open PySem PySem.Spec PyProof.Rows L2
open Enc (enc)
section
variable {α β γ δ ρ : Type} [Enc α] [Enc β] [Enc γ] [Enc δ] [Enc ρ]
variable {X : Cx} {c : Cf} {Γ Γ' : List LD} {m m' m1 m2 : Rk} {e e1 e2 e3 e4 tg tg1 : Expr} {es : List Expr} {pos p p2 : Pos} {k k1 : Bool}
theorem wn_lc2 {elt it it1 : Expr} {ifs1 : List Expr} {scope : Scope} {own : List (Str × Nat)} {vs1 : List Nat} {g g1 : TG} {W : (List α → Prop) → Prop} {Wi : α → (List β → Prop) → Prop} {Wt : α → β → (Bool → Prop) → Prop} {We : α → β → (γ → Prop) → Prop} {Γe : α → List LD} {Γf : α → β → List LD}
    (hc : X.calm = true) (hN : X.N.Nodup) (ok : BlkOk X.N X.env.scope scope own) (hv : ∀ i ∈ vs1, i ∈ own.map (·.2)) (hi : WI X c Γ k m1 tg it W) (ct : CT c Γ (own.map (·.2)) m1 g Γe) (hg : ∀ s H C cl fp, PG (Bk X scope s H C cl fp) tg g)
    (hi1 : ∀ x s H C cl fp, WI (Bk X scope s H C cl fp) c (Γe x) false m2 tg1 it1 (Wi x)) (ct1 : ∀ x, CT c (Γe x) vs1 m2 g1 (Γf x)) (hg1 : ∀ s H C cl fp, PG (Bk X scope s H C cl fp) tg1 g1)
    (ht1 : ∀ x y s H C cl fp, WTs (Bk X scope s H C cl fp) c (Γf x y) ifs1 (Wt x y)) (he : ∀ x y s H C cl fp, WX (Bk X scope s H C cl fp) c (Γf x y) m elt (We x y)) (nm : m ≠ .any := by decide) (nm1 : m1 ≠ .any := by decide) (nm2 : m2 ≠ .any := by decide)
    (hs : ∀ x, foldedSetIterable it X.env x = pure x := by intro _; rfl) (hs1 : ∀ env x, foldedSetIterable it1 env x = pure x := by intro _ _; rfl) :
    WN X c Γ m (.ListComp elt [⟨tg, it, [], 0⟩, ⟨tg1, it1, ifs1, 0⟩] scope pos) (fun Q => W fun xs => lc2W Wi Wt We xs [] Q) := by
  have mi : ∀ x, Mono (Wi x) := fun x => (hi1 x {} (fun _ => none) 0 [] []).mo
  have mt : ∀ x y, Mono (Wt x y) := fun x y => (ht1 x y {} (fun _ => none) 0 [] []).mo
  have me : ∀ x y, Mono (We x y) := fun x y => (he x y {} (fun _ => none) 0 [] []).mo
  exact ⟨fun _ _ k w => hi.mo _ _ (fun xs w => lc2W_mono mi mt me xs [] _ _ k w) w, PE.mono (pe_lc2 hc hN hi.run ok hv hg (fun s H C cl fp => pts_nil) (fun s H C cl fp => PI.ex fun x => (hi1 x s H C cl fp).run) hg1
    (fun s H C cl fp => PTs.ex fun (z : α × β) => (ht1 z.1 z.2 s H C cl fp).run) (fun s H C cl fp => PE.ex fun (z : α × β) => (he z.1 z.2 s H C cl fp).run) hs hs1) fun σ H Q h => lc2_ok hi.mo mi mt me ct ct1 nm nm1 nm2 h⟩
theorem pn_lc2 {elt it it1 : Expr} {ifs1 : List Expr} {scope : Scope} {own : List (Str × Nat)} {vs1 : List Nat} {g g1 : TG} {P : Prop} {xs : List α} {Pi : α → Prop} {ys : α → List β} {Pt : α → β → Prop} {bt : α → β → Bool} {Pe : α → β → Prop} {f : α → β → γ} {Γe : α → List LD} {Γf : α → β → List LD}
    (hc : X.calm = true) (hN : X.N.Nodup) (ok : BlkOk X.N X.env.scope scope own) (hv : ∀ i ∈ vs1, i ∈ own.map (·.2)) (hi : WI X c Γ k m1 tg it (Wp P xs)) (ct : CT c Γ (own.map (·.2)) m1 g Γe) (hg : ∀ s H C cl fp, PG (Bk X scope s H C cl fp) tg g)
    (hi1 : ∀ x s H C cl fp, WI (Bk X scope s H C cl fp) c (Γe x) false m2 tg1 it1 (Wp (Pi x) (ys x))) (ct1 : ∀ x, CT c (Γe x) vs1 m2 g1 (Γf x)) (hg1 : ∀ s H C cl fp, PG (Bk X scope s H C cl fp) tg1 g1)
    (ht1 : ∀ x y s H C cl fp, WTs (Bk X scope s H C cl fp) c (Γf x y) ifs1 (Wp (Pt x y) (bt x y))) (he : ∀ x y s H C cl fp, WX (Bk X scope s H C cl fp) c (Γf x y) m elt (Wp (Pe x y) (f x y))) (nm : m ≠ .any := by decide) (nm1 : m1 ≠ .any := by decide) (nm2 : m2 ≠ .any := by decide)
    (hs : ∀ x, foldedSetIterable it X.env x = pure x := by intro _; rfl) (hs1 : ∀ env x, foldedSetIterable it1 env x = pure x := by intro _ _; rfl) :
    WN X c Γ m (.ListComp elt [⟨tg, it, [], 0⟩, ⟨tg1, it1, ifs1, 0⟩] scope pos) (Wp (P ∧ (∀ x ∈ xs, Pi x ∧ ∀ y ∈ ys x, Pt x y ∧ (bt x y = true → Pe x y)) ∧ (xs.flatMap fun x => ((ys x).filter (bt x)).map (f x)).length ≤ sizeLine) (xs.flatMap fun x => ((ys x).filter (bt x)).map (f x))) :=
  (wn_lc2 hc hN ok hv hi ct hg hi1 ct1 hg1 ht1 he nm nm1 nm2 hs hs1).imp (fun Q q => ⟨q.1.1, lc2W_pure xs [] Q q.1.2.1 (by simpa using q.1.2.2) (by simpa using q.2)⟩) mono_wp
theorem pn_lc20 {elt it it1 : Expr} {scope : Scope} {own : List (Str × Nat)} {vs1 : List Nat} {g g1 : TG} {P : Prop} {xs : List α} {Pi : α → Prop} {ys : α → List β} {Pe : α → β → Prop} {f : α → β → γ} {Γe : α → List LD} {Γf : α → β → List LD}
    (hc : X.calm = true) (hN : X.N.Nodup) (ok : BlkOk X.N X.env.scope scope own) (hv : ∀ i ∈ vs1, i ∈ own.map (·.2)) (hi : WI X c Γ k m1 tg it (Wp P xs)) (ct : CT c Γ (own.map (·.2)) m1 g Γe) (hg : ∀ s H C cl fp, PG (Bk X scope s H C cl fp) tg g)
    (hi1 : ∀ x s H C cl fp, WI (Bk X scope s H C cl fp) c (Γe x) false m2 tg1 it1 (Wp (Pi x) (ys x))) (ct1 : ∀ x, CT c (Γe x) vs1 m2 g1 (Γf x)) (hg1 : ∀ s H C cl fp, PG (Bk X scope s H C cl fp) tg1 g1)
    (he : ∀ x y s H C cl fp, WX (Bk X scope s H C cl fp) c (Γf x y) m elt (Wp (Pe x y) (f x y))) (nm : m ≠ .any := by decide) (nm1 : m1 ≠ .any := by decide) (nm2 : m2 ≠ .any := by decide)
    (hs : ∀ x, foldedSetIterable it X.env x = pure x := by intro _; rfl) (hs1 : ∀ env x, foldedSetIterable it1 env x = pure x := by intro _ _; rfl) :
    WN X c Γ m (.ListComp elt [⟨tg, it, [], 0⟩, ⟨tg1, it1, [], 0⟩] scope pos) (Wp (P ∧ (∀ x ∈ xs, Pi x ∧ ∀ y ∈ ys x, Pe x y) ∧ (xs.flatMap fun x => (ys x).map (f x)).length ≤ sizeLine) (xs.flatMap fun x => (ys x).map (f x))) :=
  (pn_lc2 hc hN ok hv hi ct hg hi1 ct1 hg1 (fun x y s H C cl fp => wts_nil) he nm nm1 nm2 hs hs1).imp (fun Q q => by
    have e : ∀ l : List β, l.filter (fun _ => true) = l := fun l => List.filter_eq_self.mpr (fun _ _ => rfl)
    refine ⟨⟨q.1.1, fun x hx => ⟨(q.1.2.1 x hx).1, fun y hy => ⟨trivial, fun _ => (q.1.2.1 x hx).2 y hy⟩⟩, ?_⟩, ?_⟩
    · simpa only [e] using q.1.2.2
    · simpa only [e] using q.2) mono_wp

/-! ## slices -/
def cutL (lo hi : Option Int) (xs : List α) : List α := (xs.drop (HT.sIx xs.length 0 lo)).take (HT.sIx xs.length xs.length hi - HT.sIx xs.length 0 lo)
def tWO (c : Cf) (Γ : List LD) (W : (Option Int → Prop) → Prop) : TO := fun σ H Q => ∃ Z S, Rep c Z S H σ Γ ∧ W fun o => ∀ H', Evo (fa c) H H' → Rep c Z S H' σ Γ → Q o H'
structure WO (X : Cx) (c : Cf) (Γ : List LD) (o : Option Expr) (W : (Option Int → Prop) → Prop) : Prop where
  mo : Mono W
  run : PO X o (tWO c Γ W)
theorem PO.mono {o : Option Expr} {t t' : TO} (h : PO X o t) (k : ∀ σ H Q, t' σ H Q → t σ H Q) : PO X o t' := ⟨fun pins s σ H Q I q => h.run pins s σ H Q I (k σ H Q q)⟩
theorem wo_none : WO X c Γ none (Wp True none) := ⟨mono_wp, PO.mono po_none fun σ H Q ⟨Z, S, R, _, w⟩ => w H (.refl _ _) R⟩
theorem wo_some {W : (Int → Prop) → Prop} (h : WX X c Γ m e W) : WO X c Γ (some e) (fun Q => W fun i => Q (some i)) :=
  ⟨fun _ _ k w => h.mo _ _ (fun _ q => k _ q) w, PO.mono (po_some h.run) fun σ H Q ⟨Z, S, R, w⟩ => ⟨Z, S, R, h.mo _ _ (fun i q v H' ev R' d => by
    cases (d : DA _ H' v (.int i))
    exact ⟨i, rfl, q H' ev R'⟩) w⟩⟩
theorem po_someP {P : Prop} {i : Int} (h : WX X c Γ m e (Wp P i)) : WO X c Γ (some e) (Wp P (some i)) := wo_some h
theorem wn_slice {lo hi : Option Expr} {W : (List α → Prop) → Prop} {Wl Wh : (Option Int → Prop) → Prop} (h : WX X c Γ m e W) (hl : WO X c Γ lo Wl) (hh : WO X c Γ hi Wh) : WN X c Γ m (.Subscript e (.Slice lo hi none p2) pos) (fun Q => W fun xs => Wl fun a => Wh fun b => Q (cutL a b xs)) :=
  ⟨fun _ _ k w => h.mo _ _ (fun _ w => hl.mo _ _ (fun _ w => hh.mo _ _ (fun _ q => k _ q) w) w) w, PE.mono (pe_slice sl_list h.run hl.run hh.run) fun σ H Q ⟨Z, S, R, w⟩ => ⟨Z, S, R, h.mo _ _ (fun xs w v H1 ev1 R1 d1 => ⟨Z, S, R1, hl.mo _ _ (fun a w H2 ev2 R2 => ⟨Z, S, R2, hh.mo _ _ (fun b q H3 ev3 R3 => by
    have d3 := d1.evo (ev2.trans ev3 fun a z => .inl z) (rg_nfa (fun a => mo_fa) m) fun _ _ _ z => z
    obtain ⟨l, vs, rfl, al, r, e1, z, hs⟩ := d3.lstL
    refine ⟨l, vs, rfl, SqL.of r, fun p np => ?_⟩
    have ev := (ev1.trans ev2 fun a z => .inl z).trans ev3 fun a z => .inl z
    have np0 : H p = none := by
      rcases ev.free np with z | z
      · exact z
      · exact absurd (mo_fa z) (R3.dom p np).2
    have hz : (cutV vs a b).length ≤ sizeLine := Nat.le_trans (cutV_length vs a b) (e1 ▸ z)
    refine q p _ _ (ev.trans (.of_same (same_new np)) fun a z => .inl z) (R3.same (same_new np)) np0 upd_same hz ?_
    have hs' : DAs (fun a => Rg c (Mo c Z S) m a ∧ a ≠ p) H3 (cutV vs a b) ((cutL a b xs).map enc) := by
      unfold cutL cutV
      rw [List.map_take, List.map_drop, e1]
      exact das_ne np ((hs.drop _).take _)
    exact hs'.evo (M := fun _ => False) (.of_same (same_new np)) (fun _ _ z => z) fun _ _ _ z => z) w⟩) w⟩) w⟩⟩
theorem pn_slice {lo hi : Option Expr} {P Pl Ph : Prop} {xs : List α} {a b : Option Int} (h : WX X c Γ m e (Wp P xs)) (hl : WO X c Γ lo (Wp Pl a)) (hh : WO X c Γ hi (Wp Ph b)) : WN X c Γ m (.Subscript e (.Slice lo hi none p2) pos) (Wp (P ∧ Pl ∧ Ph) (cutL a b xs)) :=
  (wn_slice h hl hh).imp (fun Q q => ⟨q.1.1, q.1.2.1, q.1.2.2, q.2⟩) mono_wp

/-! ## methods of lists, by values -/
def DM1 (r : V → List V → Hp → VK → Prop) (C : List α → β → Prop) (g : List α → β → γ) : Prop := ∀ (A : Rgn) (H : Hp) (x y : V) (a : List α) (b : β) (Q : VK), (∀ p, H p = none → A p) → DA A H x (enc a) → DA A H y (enc b) → C a b →
  (∀ v H', Same H H' → DA A H' v (enc (g a b)) → Q v H') → r x [y] H Q
theorem wx_m1 {name : Str} {id : String} {apos : Pos} {r : V → List V → Hp → VK → Prop} {C : List α → β → Prop} {g : List α → β → γ} {Wa : (List α → Prop) → Prop} {Wb : (β → Prop) → Prop} (slot : Slot "list" name id) (hty : typeOf (.builtin id) = pure (.type "method_descriptor")) (hm : MtR X id r) (hd : DM1 r C g)
    (ha : WX X c Γ m e1 Wa) (hb : WX X c Γ m e2 Wb) (hbase : attributeBase e1 name X.env (eval e1 X.env) = eval e1 X.env := by rfl)
    (hfew : ((backTo pos (starEach (e2 :: []) X.env)).all (fun x => !x.1) && (backToKw pos (keywordEach [] X.env)).all (fun x => x.1.isSome)
      && decide ((e2 :: ([] : List Expr)).length + ([] : List Keyword).length + (if ([] : List Keyword).isEmpty then 0 else 1) < 30)) = true := by rfl)
    (hline : (apos.endLine == pos.line) = true := by rfl) (hs : starEach (e2 :: []) X.env = (false, eval e2 X.env) :: starEach [] X.env := by rfl) :
    WX X c Γ m (.Call (.Attribute e1 name apos) [e2] [] pos) (fun Q => Wa fun a => Wb fun b => C a b ∧ Q (g a b)) :=
  ⟨mono_two ha.mo hb.mo, PE.mono (pe_bm PySem.F.plainAttrs_list slot hty hm ha.run (pa_cons hb.run pa_nil hs) hbase hfew hline hs rfl) fun σ H Q ⟨Z, S, R, w⟩ => ⟨Z, S, R, ha.mo _ _ (fun a w v H1 ev1 R1 d1 => by
    obtain ⟨l, vs, rfl, al, r, e1, z, q⟩ := d1.lstL
    refine ⟨.inl ⟨rfl, _, SqL.of r⟩, Z, S, R1, hb.mo _ _ (fun b w u H2 ev2 R2 d2 => ?_) w⟩
    exact hd (Rg c (Mo c Z S) m) H2 _ u a b Q (R2.new m) (d1.evo ev2 (rg_nfa (fun a => mo_fa) m) fun _ _ _ z => z) d2 w.1 fun z H3 sm d3 =>
      w.2 z H3 ((ev1.trans ev2 fun a q => .inl q).trans (.of_same sm) fun a q => .inl q) (R2.same sm) d3) w⟩⟩
theorem px_m1 {name : Str} {id : String} {apos : Pos} {r : V → List V → Hp → VK → Prop} {C : List α → β → Prop} {g : List α → β → γ} {Pa Pb : Prop} {a : List α} {b : β} (slot : Slot "list" name id) (hty : typeOf (.builtin id) = pure (.type "method_descriptor")) (hm : MtR X id r) (hd : DM1 r C g)
    (ha : WX X c Γ m e1 (Wp Pa a)) (hb : WX X c Γ m e2 (Wp Pb b)) (hbase : attributeBase e1 name X.env (eval e1 X.env) = eval e1 X.env := by rfl)
    (hfew : ((backTo pos (starEach (e2 :: []) X.env)).all (fun x => !x.1) && (backToKw pos (keywordEach [] X.env)).all (fun x => x.1.isSome)
      && decide ((e2 :: ([] : List Expr)).length + ([] : List Keyword).length + (if ([] : List Keyword).isEmpty then 0 else 1) < 30)) = true := by rfl)
    (hline : (apos.endLine == pos.line) = true := by rfl) (hs : starEach (e2 :: []) X.env = (false, eval e2 X.env) :: starEach [] X.env := by rfl) :
    WX X c Γ m (.Call (.Attribute e1 name apos) [e2] [] pos) (Wp (Pa ∧ Pb ∧ C a b) (g a b)) := (wx_m1 slot hty hm hd ha hb hbase hfew hline hs).imp (fun Q h => ⟨h.1.1, h.1.2.1, h.1.2.2, h.2⟩) mono_wp
/-- the first place of an item -/
def ixOf [DecidableEq α] (xs : List α) (y : α) : Int := (xs.findIdx fun z => decide (z = y) : Nat)
theorem dm_index {K : PySem.W.Frag} [EncE α] [DecidableEq α] (h : EncE.dp α + 1 ≤ 64 := by decide) : DM1 (rIndexD K) (fun xs y => y ∈ xs) (fun (xs : List α) (y : α) => ixOf xs y) := by
  intro A H x y a b Q new hx hy hm k
  obtain ⟨l, vs, rfl, al, r, e1, z, q⟩ := hx.lstL
  have hlt : a.findIdx (fun z => decide (z = b)) < a.length := List.findIdx_lt_length_of_exists ⟨b, hm, by simp⟩
  have hj : a[a.findIdx (fun z => decide (z = b))]? = some b := by
    rw [List.getElem?_eq_getElem hlt]
    have := List.findIdx_getElem (w := hlt)
    exact congrArg some (of_decide_eq_true this)
  refine ⟨l, y, enc b, a.map enc, a.findIdx (fun z => decide (z = b)), enc b, rfl, rfl, hx.dp, hy.dp, shaped_enc (α := List α) h a, shaped_enc (by omega) b, by rw [List.getElem?_map, hj]; rfl, by rw [eqv_dec]; simp, fun i z' hi e => ?_, k _ H (.refl H) (.int _)⟩
  rw [List.getElem?_map] at e
  cases e2 : a[i]? with
  | none => rw [e2] at e; cases e
  | some w =>
    rw [e2] at e
    cases e
    rw [eqv_dec]
    have := List.not_of_lt_findIdx hi
    obtain ⟨hl, e3⟩ := List.getElem?_eq_some_iff.mp e2
    rw [e3] at this
    exact decide_eq_false fun z => by simp [z] at this
theorem dm_count {K : PySem.W.Frag} : DM1 (rCntI K) (fun _ _ => True) (fun (xs : List Int) (y : Int) => (xs.count y : Int)) := by
  intro A H x y a b Q new hx hy _ k
  obtain ⟨l, rfl, r, z⟩ := hx.lstI
  cases (hy : DA A H y (.int b))
  exact ⟨l, a, b, rfl, rfl, SqL.of r, k _ H (.refl H) (.int _)⟩

theorem WX.le0 {W : (α → Prop) → Prop} (h : WX X c Γ m' e W) : WX X c Γ .any e W := h.le (by cases m' <;> rfl)
/-! ## calls of the text's own defs -/
def sp_ (W : List PyData → (PyData → Prop) → Prop) : Sp := fun vs H Q E => ∃ ds, DAs (fun _ => True) H vs ds ∧ W ds fun r => ∀ v H', Same H H' → DA (fun a => H a = none) H' v r → Q v H'
def spf_ (W : List PyData → (PyData → Prop) → Prop) : Sp := fun vs H Q E => ∃ F us ds, vs = .ref F.a :: us ∧ FeedAt H F ∧ DAs (fun a => a ≠ F.a) H us ds ∧ W ds fun r => ∀ v H', Evo (fun a => a = F.a) H H' → FeedAt H' F → DA (fun a => H a = none) H' v r → Q v H'
theorem rg_fresh {Z : Rgn} {S : Nat → Rgn} {H : Hp} {σ : L2.St} (R : Rep c Z S H σ Γ) : ∀ (m : Rk) a, H a = none → Rg c (Mo c Z S) m a := R.new
theorem wx_call {n : Nat} {f : Addr} {fd : FuncData} {ps : List Str} {x : Str} {W : List PyData → (PyData → Prop) → Prop} {Wa : (List PyData → Prop) → Prop} {W' : (ρ → Prop) → Prop} (F : FnOk X.prog X.w X.K X.mg X.base CX0 n f fd ps (sp_ W)) (hr : Room n X.A) (hg : Gl X x) (hm : X.mg x = some (.ref f)) (hk : PySem.W.keepIn X.K (.ref f) = true) (hb : Binds X.K fd ps [])
    (ha : WA X c Γ .any (e :: es) Wa) (mo : Mono W') (h : ∀ Q, W' Q → Wa fun ds => W ds fun r => ∃ a : ρ, enc a = r ∧ Q a) (mW : ∀ ds, Mono (W ds)) (hdb : (x == ("__debug__" : Str)) = false := by decide) (he : starEach (e :: es) X.env = (false, eval e X.env) :: starEach es X.env := by rfl) (hpl : (backTo pos (starEach es X.env)).any (·.1) = false := by rfl) :
    WX X c Γ m (.Call (.Name x p) (e :: es) [] pos) W' :=
  ⟨mo, PE.mono (pe_call F hr hg hm hk hb .nil pass0 ha.run hdb he hpl) fun σ H Q ⟨Z, S, R, w⟩ => ⟨Z, S, R, ha.mo _ _ (fun ds w vs H1 ev1 R1 d1 => by
    show sp_ W (vs ++ []) H1 Q E0
    rw [List.append_nil]
    refine ⟨ds, DAs.map (fun a xs _ r => ⟨trivial, r⟩) (fun _ _ r => r) _ d1, mW ds _ _ (fun r q v H2 sm d2 => ?_) w⟩
    obtain ⟨a, rfl, q⟩ := q
    exact q v H2 (ev1.trans (.of_same sm) fun a z => .inl z) (R1.same sm) (DA.map (fun a xs ha r => ⟨R1.new m a ha, r⟩) (fun _ _ r => r) _ d2)) (h _ w)⟩⟩
theorem wx_feed (i : Nat) {x : Str} {Z : Rgn} {S : Nat → Rgn} {H : Hp} {σ : L2.St} (R : Rep c Z S H σ Γ) (hΓ : Γ[i]? = some .fd) : ∃ F, c.fd = some F ∧ σ[i]? = some (some (.ref F.a)) := R.slot i _ hΓ
theorem wx_callF {n : Nat} {f : Addr} {fd : FuncData} {ps : List Str} {x y : Str} {py : Pos} (i : Nat) {W : List PyData → (PyData → Prop) → Prop} {Wa : (List PyData → Prop) → Prop} {W' : (ρ → Prop) → Prop} (F : FnOk X.prog X.w X.K X.mg X.base CX0 n f fd ps (spf_ W)) (hr : Room n X.A) (hg : Gl X x) (hm : X.mg x = some (.ref f)) (hk : PySem.W.keepIn X.K (.ref f) = true) (hb : Binds X.K fd ps [])
    (hΓ : Γ[i]? = some .fd) (hN : X.N[i]? = some y) (hv : Vis X.env.scope y) (hd1 : (y == ("__debug__" : Str)) = false) (hcd : (y == ("__classdict__" : Str)) = false) (ha : WA X c Γ .any es Wa) (mo : Mono W') (h : ∀ Q, W' Q → Wa fun ds => W ds fun r => ∃ a : ρ, enc a = r ∧ Q a) (mW : ∀ ds, Mono (W ds))
    (hdb : (x == ("__debug__" : Str)) = false := by decide) (he : starEach (.Name y py :: es) X.env = (false, eval (.Name y py) X.env) :: starEach es X.env := by rfl) (hpl : (backTo pos (starEach es X.env)).any (·.1) = false := by rfl) :
    WX X c Γ m (.Call (.Name x p) (.Name y py :: es) [] pos) W' :=
  ⟨mo, PE.mono (pe_call F hr hg hm hk hb .nil pass0 (pa_cons (pe_var hN hv hd1 hcd) ha.run he) hdb he hpl) fun σ H Q ⟨Z, S, R, w⟩ => by
    obtain ⟨Fd, hF, e⟩ := R.slot i _ hΓ
    refine ⟨_, e, Z, S, R, ha.mo _ _ (fun ds w vs H1 ev1 R1 d1 => ?_) (h _ w)⟩
    show spf_ W ((V.ref Fd.a :: vs) ++ []) H1 Q E0
    rw [List.append_nil]
    have fae : ∀ a, fa c a ↔ a = Fd.a := fun a => ⟨fun ⟨F', h1, h2⟩ => by rw [hF] at h1; cases h1; exact h2, fun h => ⟨Fd, hF, h⟩⟩
    refine ⟨Fd, vs, ds, rfl, (R1.feed Fd hF).1, DAs.map (fun a xs ha r => ⟨fun z => ha ((fae a).mpr z), r⟩) (fun _ _ r => r) _ d1, mW ds _ _ (fun r q v H2 ev2 fe d2 => ?_) w⟩
    obtain ⟨a, rfl, q⟩ := q
    have ev2' : Evo (fa c) H1 H2 := ev2.mono fun a z => (fae a).mpr z
    exact q v H2 (ev1.trans ev2' fun a z => .inl z) (R1.step ev2' fun F' hF' => by rw [hF] at hF'; cases hF'; exact fe) (DA.map (fun a xs ha r => ⟨R1.new m a ha, r⟩) (fun _ _ r => r) _ d2)⟩
end

section
variable {τ0 τ1 τ2 τ3 τ4 τ5 ρ : Type} [Enc τ0] [Enc τ1] [Enc τ2] [Enc τ3] [Enc τ4] [Enc τ5] [Enc ρ]
variable {X : Cx} {c : Cf} {Γ Γ' : List LD} {m m0 m1 m2 m3 m4 m5 : Rk} {e0 e1 e2 e3 e4 e5 : Expr} {pos p : Pos} {n : Nat} {f : Addr} {fd : FuncData} {ps : List Str} {x y : Str} {py : Pos}
def sf0 (s : (ρ → Prop) → Prop) : Sp := spf_ fun ds Q => ds = [] ∧ s fun r => Q (enc r)
theorem wx_g0 {s : (ρ → Prop) → Prop}  (F : FnOk X.prog X.w X.K X.mg X.base CX0 n f fd ps (sf0 s)) (hr : Room n X.A) (hg : Gl X x) (hm : X.mg x = some (.ref f)) (hk : PySem.W.keepIn X.K (.ref f) = true) (hb : Binds X.K fd ps []) (ms : Mono (s))  (i : Nat) (hΓ : Γ[i]? = some .fd := by rfl) (hN : X.N[i]? = some y := by rfl) (hv : Vis X.env.scope y := by first | exact Or.inl rfl | exact Or.inr (Or.inl rfl) | exact Or.inr (Or.inr rfl)) (hd1 : (y == ("__debug__" : Str)) = false := by decide) (hcd : (y == ("__classdict__" : Str)) = false := by decide)  (sf : starEach [.Name y py] X.env = (false, eval (.Name y py) X.env) :: starEach [] X.env := by rfl) (hdb : (x == ("__debug__" : Str)) = false := by decide) (hpl : (backTo pos (starEach [] X.env)).any (·.1) = false := by rfl) :
    WX X c Γ m (.Call (.Name x p) [.Name y py] [] pos) (fun Q => s Q) :=
  wx_callF i F hr hg hm hk hb hΓ hN hv hd1 hcd wa_nil (fun Q Q' k w => ms  _ _ k w) (fun Q w => ⟨rfl, ms  _ _ (fun r q => ⟨r, rfl, q⟩) w⟩) (fun ds Q Q' k q => by
    obtain ⟨rfl, q⟩ := q
    exact ⟨rfl, ms  _ _ (fun r z => k _ z) q⟩) hdb sf hpl
def sp1 (s : τ0 → (ρ → Prop) → Prop) : Sp := sp_ fun ds Q => ∃ a0 : τ0, ds = [enc a0] ∧ s a0 fun r => Q (enc r)
def sf1 (s : τ0 → (ρ → Prop) → Prop) : Sp := spf_ fun ds Q => ∃ a0 : τ0, ds = [enc a0] ∧ s a0 fun r => Q (enc r)
theorem wx_f1 {s : τ0 → (ρ → Prop) → Prop} {W0 : (τ0 → Prop) → Prop} (F : FnOk X.prog X.w X.K X.mg X.base CX0 n f fd ps (sp1 s)) (hr : Room n X.A) (hg : Gl X x) (hm : X.mg x = some (.ref f)) (hk : PySem.W.keepIn X.K (.ref f) = true) (hb : Binds X.K fd ps []) (ms : ∀ a0, Mono (s a0)) (h0 : WX X c Γ m0 e0 W0) (s0 : starEach [e0] X.env = (false, eval e0 X.env) :: starEach [] X.env := by rfl) (hdb : (x == ("__debug__" : Str)) = false := by decide) (hpl : (backTo pos (starEach [] X.env)).any (·.1) = false := by rfl) :
    WX X c Γ m (.Call (.Name x p) [e0] [] pos) (fun Q => W0 fun a0 => s a0 Q) :=
  wx_call F hr hg hm hk hb (wa_cons (m := .any) (h0.le0) wa_nil s0) (fun Q Q' k w => h0.mo _ _ (fun a0 w => ms a0 _ _ k w) w) (fun Q w => h0.mo _ _ (fun a0 w => ⟨a0, rfl, ms a0 _ _ (fun r q => ⟨r, rfl, q⟩) w⟩) w) (fun ds Q Q' k q => by
    obtain ⟨a0, rfl, q⟩ := q
    exact ⟨a0, rfl, ms a0 _ _ (fun r z => k _ z) q⟩) hdb s0 hpl
theorem px_f1 {P : τ0 → Prop} {g : τ0 → ρ} {P0 : Prop} {a0 : τ0} (F : FnOk X.prog X.w X.K X.mg X.base CX0 n f fd ps (sp1 fun a0 => Wp (P a0) (g a0))) (hr : Room n X.A) (hg : Gl X x) (hm : X.mg x = some (.ref f)) (hk : PySem.W.keepIn X.K (.ref f) = true) (hb : Binds X.K fd ps []) (h0 : WX X c Γ m0 e0 (Wp P0 a0)) (s0 : starEach [e0] X.env = (false, eval e0 X.env) :: starEach [] X.env := by rfl) (hdb : (x == ("__debug__" : Str)) = false := by decide) (hpl : (backTo pos (starEach [] X.env)).any (·.1) = false := by rfl) :
    WX X c Γ m (.Call (.Name x p) [e0] [] pos) (Wp (P0 ∧ P a0) (g a0)) :=
  (wx_f1 F hr hg hm hk hb (fun a0 => mono_wp) h0 s0 hdb hpl).imp (fun Q q => ⟨q.1.1, q.1.2, q.2⟩) mono_wp
theorem wx_g1 {s : τ0 → (ρ → Prop) → Prop} {W0 : (τ0 → Prop) → Prop} (F : FnOk X.prog X.w X.K X.mg X.base CX0 n f fd ps (sf1 s)) (hr : Room n X.A) (hg : Gl X x) (hm : X.mg x = some (.ref f)) (hk : PySem.W.keepIn X.K (.ref f) = true) (hb : Binds X.K fd ps []) (ms : ∀ a0, Mono (s a0)) (h0 : WX X c Γ m0 e0 W0) (i : Nat) (hΓ : Γ[i]? = some .fd := by rfl) (hN : X.N[i]? = some y := by rfl) (hv : Vis X.env.scope y := by first | exact Or.inl rfl | exact Or.inr (Or.inl rfl) | exact Or.inr (Or.inr rfl)) (hd1 : (y == ("__debug__" : Str)) = false := by decide) (hcd : (y == ("__classdict__" : Str)) = false := by decide) (s0 : starEach [e0] X.env = (false, eval e0 X.env) :: starEach [] X.env := by rfl) (sf : starEach [.Name y py, e0] X.env = (false, eval (.Name y py) X.env) :: starEach [e0] X.env := by rfl) (hdb : (x == ("__debug__" : Str)) = false := by decide) (hpl : (backTo pos (starEach [e0] X.env)).any (·.1) = false := by rfl) :
    WX X c Γ m (.Call (.Name x p) [.Name y py, e0] [] pos) (fun Q => W0 fun a0 => s a0 Q) :=
  wx_callF i F hr hg hm hk hb hΓ hN hv hd1 hcd (wa_cons (m := .any) (h0.le0) wa_nil s0) (fun Q Q' k w => h0.mo _ _ (fun a0 w => ms a0 _ _ k w) w) (fun Q w => h0.mo _ _ (fun a0 w => ⟨a0, rfl, ms a0 _ _ (fun r q => ⟨r, rfl, q⟩) w⟩) w) (fun ds Q Q' k q => by
    obtain ⟨a0, rfl, q⟩ := q
    exact ⟨a0, rfl, ms a0 _ _ (fun r z => k _ z) q⟩) hdb sf hpl
def sp2 (s : τ0 → τ1 → (ρ → Prop) → Prop) : Sp := sp_ fun ds Q => ∃ a0 : τ0, ∃ a1 : τ1, ds = [enc a0, enc a1] ∧ s a0 a1 fun r => Q (enc r)
def sf2 (s : τ0 → τ1 → (ρ → Prop) → Prop) : Sp := spf_ fun ds Q => ∃ a0 : τ0, ∃ a1 : τ1, ds = [enc a0, enc a1] ∧ s a0 a1 fun r => Q (enc r)
theorem wx_f2 {s : τ0 → τ1 → (ρ → Prop) → Prop} {W0 : (τ0 → Prop) → Prop} {W1 : (τ1 → Prop) → Prop} (F : FnOk X.prog X.w X.K X.mg X.base CX0 n f fd ps (sp2 s)) (hr : Room n X.A) (hg : Gl X x) (hm : X.mg x = some (.ref f)) (hk : PySem.W.keepIn X.K (.ref f) = true) (hb : Binds X.K fd ps []) (ms : ∀ a0 a1, Mono (s a0 a1)) (h0 : WX X c Γ m0 e0 W0) (h1 : WX X c Γ m1 e1 W1) (s0 : starEach [e0, e1] X.env = (false, eval e0 X.env) :: starEach [e1] X.env := by rfl) (s1 : starEach [e1] X.env = (false, eval e1 X.env) :: starEach [] X.env := by rfl) (hdb : (x == ("__debug__" : Str)) = false := by decide) (hpl : (backTo pos (starEach [e1] X.env)).any (·.1) = false := by rfl) :
    WX X c Γ m (.Call (.Name x p) [e0, e1] [] pos) (fun Q => W0 fun a0 => W1 fun a1 => s a0 a1 Q) :=
  wx_call F hr hg hm hk hb (wa_cons (m := .any) (h0.le0) (wa_cons (m := .any) (h1.le0) wa_nil s1) s0) (fun Q Q' k w => h0.mo _ _ (fun a0 w => h1.mo _ _ (fun a1 w => ms a0 a1 _ _ k w) w) w) (fun Q w => h0.mo _ _ (fun a0 w => h1.mo _ _ (fun a1 w => ⟨a0, a1, rfl, ms a0 a1 _ _ (fun r q => ⟨r, rfl, q⟩) w⟩) w) w) (fun ds Q Q' k q => by
    obtain ⟨a0, a1, rfl, q⟩ := q
    exact ⟨a0, a1, rfl, ms a0 a1 _ _ (fun r z => k _ z) q⟩) hdb s0 hpl
theorem px_f2 {P : τ0 → τ1 → Prop} {g : τ0 → τ1 → ρ} {P0 : Prop} {a0 : τ0} {P1 : Prop} {a1 : τ1} (F : FnOk X.prog X.w X.K X.mg X.base CX0 n f fd ps (sp2 fun a0 a1 => Wp (P a0 a1) (g a0 a1))) (hr : Room n X.A) (hg : Gl X x) (hm : X.mg x = some (.ref f)) (hk : PySem.W.keepIn X.K (.ref f) = true) (hb : Binds X.K fd ps []) (h0 : WX X c Γ m0 e0 (Wp P0 a0)) (h1 : WX X c Γ m1 e1 (Wp P1 a1)) (s0 : starEach [e0, e1] X.env = (false, eval e0 X.env) :: starEach [e1] X.env := by rfl) (s1 : starEach [e1] X.env = (false, eval e1 X.env) :: starEach [] X.env := by rfl) (hdb : (x == ("__debug__" : Str)) = false := by decide) (hpl : (backTo pos (starEach [e1] X.env)).any (·.1) = false := by rfl) :
    WX X c Γ m (.Call (.Name x p) [e0, e1] [] pos) (Wp (P0 ∧ P1 ∧ P a0 a1) (g a0 a1)) :=
  (wx_f2 F hr hg hm hk hb (fun a0 a1 => mono_wp) h0 h1 s0 s1 hdb hpl).imp (fun Q q => ⟨q.1.1, q.1.2.1, q.1.2.2, q.2⟩) mono_wp
theorem wx_g2 {s : τ0 → τ1 → (ρ → Prop) → Prop} {W0 : (τ0 → Prop) → Prop} {W1 : (τ1 → Prop) → Prop} (F : FnOk X.prog X.w X.K X.mg X.base CX0 n f fd ps (sf2 s)) (hr : Room n X.A) (hg : Gl X x) (hm : X.mg x = some (.ref f)) (hk : PySem.W.keepIn X.K (.ref f) = true) (hb : Binds X.K fd ps []) (ms : ∀ a0 a1, Mono (s a0 a1)) (h0 : WX X c Γ m0 e0 W0) (h1 : WX X c Γ m1 e1 W1) (i : Nat) (hΓ : Γ[i]? = some .fd := by rfl) (hN : X.N[i]? = some y := by rfl) (hv : Vis X.env.scope y := by first | exact Or.inl rfl | exact Or.inr (Or.inl rfl) | exact Or.inr (Or.inr rfl)) (hd1 : (y == ("__debug__" : Str)) = false := by decide) (hcd : (y == ("__classdict__" : Str)) = false := by decide) (s0 : starEach [e0, e1] X.env = (false, eval e0 X.env) :: starEach [e1] X.env := by rfl) (s1 : starEach [e1] X.env = (false, eval e1 X.env) :: starEach [] X.env := by rfl) (sf : starEach [.Name y py, e0, e1] X.env = (false, eval (.Name y py) X.env) :: starEach [e0, e1] X.env := by rfl) (hdb : (x == ("__debug__" : Str)) = false := by decide) (hpl : (backTo pos (starEach [e0, e1] X.env)).any (·.1) = false := by rfl) :
    WX X c Γ m (.Call (.Name x p) [.Name y py, e0, e1] [] pos) (fun Q => W0 fun a0 => W1 fun a1 => s a0 a1 Q) :=
  wx_callF i F hr hg hm hk hb hΓ hN hv hd1 hcd (wa_cons (m := .any) (h0.le0) (wa_cons (m := .any) (h1.le0) wa_nil s1) s0) (fun Q Q' k w => h0.mo _ _ (fun a0 w => h1.mo _ _ (fun a1 w => ms a0 a1 _ _ k w) w) w) (fun Q w => h0.mo _ _ (fun a0 w => h1.mo _ _ (fun a1 w => ⟨a0, a1, rfl, ms a0 a1 _ _ (fun r q => ⟨r, rfl, q⟩) w⟩) w) w) (fun ds Q Q' k q => by
    obtain ⟨a0, a1, rfl, q⟩ := q
    exact ⟨a0, a1, rfl, ms a0 a1 _ _ (fun r z => k _ z) q⟩) hdb sf hpl
def sp3 (s : τ0 → τ1 → τ2 → (ρ → Prop) → Prop) : Sp := sp_ fun ds Q => ∃ a0 : τ0, ∃ a1 : τ1, ∃ a2 : τ2, ds = [enc a0, enc a1, enc a2] ∧ s a0 a1 a2 fun r => Q (enc r)
def sf3 (s : τ0 → τ1 → τ2 → (ρ → Prop) → Prop) : Sp := spf_ fun ds Q => ∃ a0 : τ0, ∃ a1 : τ1, ∃ a2 : τ2, ds = [enc a0, enc a1, enc a2] ∧ s a0 a1 a2 fun r => Q (enc r)
theorem wx_f3 {s : τ0 → τ1 → τ2 → (ρ → Prop) → Prop} {W0 : (τ0 → Prop) → Prop} {W1 : (τ1 → Prop) → Prop} {W2 : (τ2 → Prop) → Prop} (F : FnOk X.prog X.w X.K X.mg X.base CX0 n f fd ps (sp3 s)) (hr : Room n X.A) (hg : Gl X x) (hm : X.mg x = some (.ref f)) (hk : PySem.W.keepIn X.K (.ref f) = true) (hb : Binds X.K fd ps []) (ms : ∀ a0 a1 a2, Mono (s a0 a1 a2)) (h0 : WX X c Γ m0 e0 W0) (h1 : WX X c Γ m1 e1 W1) (h2 : WX X c Γ m2 e2 W2) (s0 : starEach [e0, e1, e2] X.env = (false, eval e0 X.env) :: starEach [e1, e2] X.env := by rfl) (s1 : starEach [e1, e2] X.env = (false, eval e1 X.env) :: starEach [e2] X.env := by rfl) (s2 : starEach [e2] X.env = (false, eval e2 X.env) :: starEach [] X.env := by rfl) (hdb : (x == ("__debug__" : Str)) = false := by decide) (hpl : (backTo pos (starEach [e1, e2] X.env)).any (·.1) = false := by rfl) :
    WX X c Γ m (.Call (.Name x p) [e0, e1, e2] [] pos) (fun Q => W0 fun a0 => W1 fun a1 => W2 fun a2 => s a0 a1 a2 Q) :=
  wx_call F hr hg hm hk hb (wa_cons (m := .any) (h0.le0) (wa_cons (m := .any) (h1.le0) (wa_cons (m := .any) (h2.le0) wa_nil s2) s1) s0) (fun Q Q' k w => h0.mo _ _ (fun a0 w => h1.mo _ _ (fun a1 w => h2.mo _ _ (fun a2 w => ms a0 a1 a2 _ _ k w) w) w) w) (fun Q w => h0.mo _ _ (fun a0 w => h1.mo _ _ (fun a1 w => h2.mo _ _ (fun a2 w => ⟨a0, a1, a2, rfl, ms a0 a1 a2 _ _ (fun r q => ⟨r, rfl, q⟩) w⟩) w) w) w) (fun ds Q Q' k q => by
    obtain ⟨a0, a1, a2, rfl, q⟩ := q
    exact ⟨a0, a1, a2, rfl, ms a0 a1 a2 _ _ (fun r z => k _ z) q⟩) hdb s0 hpl
theorem px_f3 {P : τ0 → τ1 → τ2 → Prop} {g : τ0 → τ1 → τ2 → ρ} {P0 : Prop} {a0 : τ0} {P1 : Prop} {a1 : τ1} {P2 : Prop} {a2 : τ2} (F : FnOk X.prog X.w X.K X.mg X.base CX0 n f fd ps (sp3 fun a0 a1 a2 => Wp (P a0 a1 a2) (g a0 a1 a2))) (hr : Room n X.A) (hg : Gl X x) (hm : X.mg x = some (.ref f)) (hk : PySem.W.keepIn X.K (.ref f) = true) (hb : Binds X.K fd ps []) (h0 : WX X c Γ m0 e0 (Wp P0 a0)) (h1 : WX X c Γ m1 e1 (Wp P1 a1)) (h2 : WX X c Γ m2 e2 (Wp P2 a2)) (s0 : starEach [e0, e1, e2] X.env = (false, eval e0 X.env) :: starEach [e1, e2] X.env := by rfl) (s1 : starEach [e1, e2] X.env = (false, eval e1 X.env) :: starEach [e2] X.env := by rfl) (s2 : starEach [e2] X.env = (false, eval e2 X.env) :: starEach [] X.env := by rfl) (hdb : (x == ("__debug__" : Str)) = false := by decide) (hpl : (backTo pos (starEach [e1, e2] X.env)).any (·.1) = false := by rfl) :
    WX X c Γ m (.Call (.Name x p) [e0, e1, e2] [] pos) (Wp (P0 ∧ P1 ∧ P2 ∧ P a0 a1 a2) (g a0 a1 a2)) :=
  (wx_f3 F hr hg hm hk hb (fun a0 a1 a2 => mono_wp) h0 h1 h2 s0 s1 s2 hdb hpl).imp (fun Q q => ⟨q.1.1, q.1.2.1, q.1.2.2.1, q.1.2.2.2, q.2⟩) mono_wp
theorem wx_g3 {s : τ0 → τ1 → τ2 → (ρ → Prop) → Prop} {W0 : (τ0 → Prop) → Prop} {W1 : (τ1 → Prop) → Prop} {W2 : (τ2 → Prop) → Prop} (F : FnOk X.prog X.w X.K X.mg X.base CX0 n f fd ps (sf3 s)) (hr : Room n X.A) (hg : Gl X x) (hm : X.mg x = some (.ref f)) (hk : PySem.W.keepIn X.K (.ref f) = true) (hb : Binds X.K fd ps []) (ms : ∀ a0 a1 a2, Mono (s a0 a1 a2)) (h0 : WX X c Γ m0 e0 W0) (h1 : WX X c Γ m1 e1 W1) (h2 : WX X c Γ m2 e2 W2) (i : Nat) (hΓ : Γ[i]? = some .fd := by rfl) (hN : X.N[i]? = some y := by rfl) (hv : Vis X.env.scope y := by first | exact Or.inl rfl | exact Or.inr (Or.inl rfl) | exact Or.inr (Or.inr rfl)) (hd1 : (y == ("__debug__" : Str)) = false := by decide) (hcd : (y == ("__classdict__" : Str)) = false := by decide) (s0 : starEach [e0, e1, e2] X.env = (false, eval e0 X.env) :: starEach [e1, e2] X.env := by rfl) (s1 : starEach [e1, e2] X.env = (false, eval e1 X.env) :: starEach [e2] X.env := by rfl) (s2 : starEach [e2] X.env = (false, eval e2 X.env) :: starEach [] X.env := by rfl) (sf : starEach [.Name y py, e0, e1, e2] X.env = (false, eval (.Name y py) X.env) :: starEach [e0, e1, e2] X.env := by rfl) (hdb : (x == ("__debug__" : Str)) = false := by decide) (hpl : (backTo pos (starEach [e0, e1, e2] X.env)).any (·.1) = false := by rfl) :
    WX X c Γ m (.Call (.Name x p) [.Name y py, e0, e1, e2] [] pos) (fun Q => W0 fun a0 => W1 fun a1 => W2 fun a2 => s a0 a1 a2 Q) :=
  wx_callF i F hr hg hm hk hb hΓ hN hv hd1 hcd (wa_cons (m := .any) (h0.le0) (wa_cons (m := .any) (h1.le0) (wa_cons (m := .any) (h2.le0) wa_nil s2) s1) s0) (fun Q Q' k w => h0.mo _ _ (fun a0 w => h1.mo _ _ (fun a1 w => h2.mo _ _ (fun a2 w => ms a0 a1 a2 _ _ k w) w) w) w) (fun Q w => h0.mo _ _ (fun a0 w => h1.mo _ _ (fun a1 w => h2.mo _ _ (fun a2 w => ⟨a0, a1, a2, rfl, ms a0 a1 a2 _ _ (fun r q => ⟨r, rfl, q⟩) w⟩) w) w) w) (fun ds Q Q' k q => by
    obtain ⟨a0, a1, a2, rfl, q⟩ := q
    exact ⟨a0, a1, a2, rfl, ms a0 a1 a2 _ _ (fun r z => k _ z) q⟩) hdb sf hpl
def sp4 (s : τ0 → τ1 → τ2 → τ3 → (ρ → Prop) → Prop) : Sp := sp_ fun ds Q => ∃ a0 : τ0, ∃ a1 : τ1, ∃ a2 : τ2, ∃ a3 : τ3, ds = [enc a0, enc a1, enc a2, enc a3] ∧ s a0 a1 a2 a3 fun r => Q (enc r)
def sf4 (s : τ0 → τ1 → τ2 → τ3 → (ρ → Prop) → Prop) : Sp := spf_ fun ds Q => ∃ a0 : τ0, ∃ a1 : τ1, ∃ a2 : τ2, ∃ a3 : τ3, ds = [enc a0, enc a1, enc a2, enc a3] ∧ s a0 a1 a2 a3 fun r => Q (enc r)
theorem wx_f4 {s : τ0 → τ1 → τ2 → τ3 → (ρ → Prop) → Prop} {W0 : (τ0 → Prop) → Prop} {W1 : (τ1 → Prop) → Prop} {W2 : (τ2 → Prop) → Prop} {W3 : (τ3 → Prop) → Prop} (F : FnOk X.prog X.w X.K X.mg X.base CX0 n f fd ps (sp4 s)) (hr : Room n X.A) (hg : Gl X x) (hm : X.mg x = some (.ref f)) (hk : PySem.W.keepIn X.K (.ref f) = true) (hb : Binds X.K fd ps []) (ms : ∀ a0 a1 a2 a3, Mono (s a0 a1 a2 a3)) (h0 : WX X c Γ m0 e0 W0) (h1 : WX X c Γ m1 e1 W1) (h2 : WX X c Γ m2 e2 W2) (h3 : WX X c Γ m3 e3 W3) (s0 : starEach [e0, e1, e2, e3] X.env = (false, eval e0 X.env) :: starEach [e1, e2, e3] X.env := by rfl) (s1 : starEach [e1, e2, e3] X.env = (false, eval e1 X.env) :: starEach [e2, e3] X.env := by rfl) (s2 : starEach [e2, e3] X.env = (false, eval e2 X.env) :: starEach [e3] X.env := by rfl) (s3 : starEach [e3] X.env = (false, eval e3 X.env) :: starEach [] X.env := by rfl) (hdb : (x == ("__debug__" : Str)) = false := by decide) (hpl : (backTo pos (starEach [e1, e2, e3] X.env)).any (·.1) = false := by rfl) :
    WX X c Γ m (.Call (.Name x p) [e0, e1, e2, e3] [] pos) (fun Q => W0 fun a0 => W1 fun a1 => W2 fun a2 => W3 fun a3 => s a0 a1 a2 a3 Q) :=
  wx_call F hr hg hm hk hb (wa_cons (m := .any) (h0.le0) (wa_cons (m := .any) (h1.le0) (wa_cons (m := .any) (h2.le0) (wa_cons (m := .any) (h3.le0) wa_nil s3) s2) s1) s0) (fun Q Q' k w => h0.mo _ _ (fun a0 w => h1.mo _ _ (fun a1 w => h2.mo _ _ (fun a2 w => h3.mo _ _ (fun a3 w => ms a0 a1 a2 a3 _ _ k w) w) w) w) w) (fun Q w => h0.mo _ _ (fun a0 w => h1.mo _ _ (fun a1 w => h2.mo _ _ (fun a2 w => h3.mo _ _ (fun a3 w => ⟨a0, a1, a2, a3, rfl, ms a0 a1 a2 a3 _ _ (fun r q => ⟨r, rfl, q⟩) w⟩) w) w) w) w) (fun ds Q Q' k q => by
    obtain ⟨a0, a1, a2, a3, rfl, q⟩ := q
    exact ⟨a0, a1, a2, a3, rfl, ms a0 a1 a2 a3 _ _ (fun r z => k _ z) q⟩) hdb s0 hpl
theorem px_f4 {P : τ0 → τ1 → τ2 → τ3 → Prop} {g : τ0 → τ1 → τ2 → τ3 → ρ} {P0 : Prop} {a0 : τ0} {P1 : Prop} {a1 : τ1} {P2 : Prop} {a2 : τ2} {P3 : Prop} {a3 : τ3} (F : FnOk X.prog X.w X.K X.mg X.base CX0 n f fd ps (sp4 fun a0 a1 a2 a3 => Wp (P a0 a1 a2 a3) (g a0 a1 a2 a3))) (hr : Room n X.A) (hg : Gl X x) (hm : X.mg x = some (.ref f)) (hk : PySem.W.keepIn X.K (.ref f) = true) (hb : Binds X.K fd ps []) (h0 : WX X c Γ m0 e0 (Wp P0 a0)) (h1 : WX X c Γ m1 e1 (Wp P1 a1)) (h2 : WX X c Γ m2 e2 (Wp P2 a2)) (h3 : WX X c Γ m3 e3 (Wp P3 a3)) (s0 : starEach [e0, e1, e2, e3] X.env = (false, eval e0 X.env) :: starEach [e1, e2, e3] X.env := by rfl) (s1 : starEach [e1, e2, e3] X.env = (false, eval e1 X.env) :: starEach [e2, e3] X.env := by rfl) (s2 : starEach [e2, e3] X.env = (false, eval e2 X.env) :: starEach [e3] X.env := by rfl) (s3 : starEach [e3] X.env = (false, eval e3 X.env) :: starEach [] X.env := by rfl) (hdb : (x == ("__debug__" : Str)) = false := by decide) (hpl : (backTo pos (starEach [e1, e2, e3] X.env)).any (·.1) = false := by rfl) :
    WX X c Γ m (.Call (.Name x p) [e0, e1, e2, e3] [] pos) (Wp (P0 ∧ P1 ∧ P2 ∧ P3 ∧ P a0 a1 a2 a3) (g a0 a1 a2 a3)) :=
  (wx_f4 F hr hg hm hk hb (fun a0 a1 a2 a3 => mono_wp) h0 h1 h2 h3 s0 s1 s2 s3 hdb hpl).imp (fun Q q => ⟨q.1.1, q.1.2.1, q.1.2.2.1, q.1.2.2.2.1, q.1.2.2.2.2, q.2⟩) mono_wp
theorem wx_g4 {s : τ0 → τ1 → τ2 → τ3 → (ρ → Prop) → Prop} {W0 : (τ0 → Prop) → Prop} {W1 : (τ1 → Prop) → Prop} {W2 : (τ2 → Prop) → Prop} {W3 : (τ3 → Prop) → Prop} (F : FnOk X.prog X.w X.K X.mg X.base CX0 n f fd ps (sf4 s)) (hr : Room n X.A) (hg : Gl X x) (hm : X.mg x = some (.ref f)) (hk : PySem.W.keepIn X.K (.ref f) = true) (hb : Binds X.K fd ps []) (ms : ∀ a0 a1 a2 a3, Mono (s a0 a1 a2 a3)) (h0 : WX X c Γ m0 e0 W0) (h1 : WX X c Γ m1 e1 W1) (h2 : WX X c Γ m2 e2 W2) (h3 : WX X c Γ m3 e3 W3) (i : Nat) (hΓ : Γ[i]? = some .fd := by rfl) (hN : X.N[i]? = some y := by rfl) (hv : Vis X.env.scope y := by first | exact Or.inl rfl | exact Or.inr (Or.inl rfl) | exact Or.inr (Or.inr rfl)) (hd1 : (y == ("__debug__" : Str)) = false := by decide) (hcd : (y == ("__classdict__" : Str)) = false := by decide) (s0 : starEach [e0, e1, e2, e3] X.env = (false, eval e0 X.env) :: starEach [e1, e2, e3] X.env := by rfl) (s1 : starEach [e1, e2, e3] X.env = (false, eval e1 X.env) :: starEach [e2, e3] X.env := by rfl) (s2 : starEach [e2, e3] X.env = (false, eval e2 X.env) :: starEach [e3] X.env := by rfl) (s3 : starEach [e3] X.env = (false, eval e3 X.env) :: starEach [] X.env := by rfl) (sf : starEach [.Name y py, e0, e1, e2, e3] X.env = (false, eval (.Name y py) X.env) :: starEach [e0, e1, e2, e3] X.env := by rfl) (hdb : (x == ("__debug__" : Str)) = false := by decide) (hpl : (backTo pos (starEach [e0, e1, e2, e3] X.env)).any (·.1) = false := by rfl) :
    WX X c Γ m (.Call (.Name x p) [.Name y py, e0, e1, e2, e3] [] pos) (fun Q => W0 fun a0 => W1 fun a1 => W2 fun a2 => W3 fun a3 => s a0 a1 a2 a3 Q) :=
  wx_callF i F hr hg hm hk hb hΓ hN hv hd1 hcd (wa_cons (m := .any) (h0.le0) (wa_cons (m := .any) (h1.le0) (wa_cons (m := .any) (h2.le0) (wa_cons (m := .any) (h3.le0) wa_nil s3) s2) s1) s0) (fun Q Q' k w => h0.mo _ _ (fun a0 w => h1.mo _ _ (fun a1 w => h2.mo _ _ (fun a2 w => h3.mo _ _ (fun a3 w => ms a0 a1 a2 a3 _ _ k w) w) w) w) w) (fun Q w => h0.mo _ _ (fun a0 w => h1.mo _ _ (fun a1 w => h2.mo _ _ (fun a2 w => h3.mo _ _ (fun a3 w => ⟨a0, a1, a2, a3, rfl, ms a0 a1 a2 a3 _ _ (fun r q => ⟨r, rfl, q⟩) w⟩) w) w) w) w) (fun ds Q Q' k q => by
    obtain ⟨a0, a1, a2, a3, rfl, q⟩ := q
    exact ⟨a0, a1, a2, a3, rfl, ms a0 a1 a2 a3 _ _ (fun r z => k _ z) q⟩) hdb sf hpl
def sp5 (s : τ0 → τ1 → τ2 → τ3 → τ4 → (ρ → Prop) → Prop) : Sp := sp_ fun ds Q => ∃ a0 : τ0, ∃ a1 : τ1, ∃ a2 : τ2, ∃ a3 : τ3, ∃ a4 : τ4, ds = [enc a0, enc a1, enc a2, enc a3, enc a4] ∧ s a0 a1 a2 a3 a4 fun r => Q (enc r)
def sf5 (s : τ0 → τ1 → τ2 → τ3 → τ4 → (ρ → Prop) → Prop) : Sp := spf_ fun ds Q => ∃ a0 : τ0, ∃ a1 : τ1, ∃ a2 : τ2, ∃ a3 : τ3, ∃ a4 : τ4, ds = [enc a0, enc a1, enc a2, enc a3, enc a4] ∧ s a0 a1 a2 a3 a4 fun r => Q (enc r)
theorem wx_f5 {s : τ0 → τ1 → τ2 → τ3 → τ4 → (ρ → Prop) → Prop} {W0 : (τ0 → Prop) → Prop} {W1 : (τ1 → Prop) → Prop} {W2 : (τ2 → Prop) → Prop} {W3 : (τ3 → Prop) → Prop} {W4 : (τ4 → Prop) → Prop} (F : FnOk X.prog X.w X.K X.mg X.base CX0 n f fd ps (sp5 s)) (hr : Room n X.A) (hg : Gl X x) (hm : X.mg x = some (.ref f)) (hk : PySem.W.keepIn X.K (.ref f) = true) (hb : Binds X.K fd ps []) (ms : ∀ a0 a1 a2 a3 a4, Mono (s a0 a1 a2 a3 a4)) (h0 : WX X c Γ m0 e0 W0) (h1 : WX X c Γ m1 e1 W1) (h2 : WX X c Γ m2 e2 W2) (h3 : WX X c Γ m3 e3 W3) (h4 : WX X c Γ m4 e4 W4) (s0 : starEach [e0, e1, e2, e3, e4] X.env = (false, eval e0 X.env) :: starEach [e1, e2, e3, e4] X.env := by rfl) (s1 : starEach [e1, e2, e3, e4] X.env = (false, eval e1 X.env) :: starEach [e2, e3, e4] X.env := by rfl) (s2 : starEach [e2, e3, e4] X.env = (false, eval e2 X.env) :: starEach [e3, e4] X.env := by rfl) (s3 : starEach [e3, e4] X.env = (false, eval e3 X.env) :: starEach [e4] X.env := by rfl) (s4 : starEach [e4] X.env = (false, eval e4 X.env) :: starEach [] X.env := by rfl) (hdb : (x == ("__debug__" : Str)) = false := by decide) (hpl : (backTo pos (starEach [e1, e2, e3, e4] X.env)).any (·.1) = false := by rfl) :
    WX X c Γ m (.Call (.Name x p) [e0, e1, e2, e3, e4] [] pos) (fun Q => W0 fun a0 => W1 fun a1 => W2 fun a2 => W3 fun a3 => W4 fun a4 => s a0 a1 a2 a3 a4 Q) :=
  wx_call F hr hg hm hk hb (wa_cons (m := .any) (h0.le0) (wa_cons (m := .any) (h1.le0) (wa_cons (m := .any) (h2.le0) (wa_cons (m := .any) (h3.le0) (wa_cons (m := .any) (h4.le0) wa_nil s4) s3) s2) s1) s0) (fun Q Q' k w => h0.mo _ _ (fun a0 w => h1.mo _ _ (fun a1 w => h2.mo _ _ (fun a2 w => h3.mo _ _ (fun a3 w => h4.mo _ _ (fun a4 w => ms a0 a1 a2 a3 a4 _ _ k w) w) w) w) w) w) (fun Q w => h0.mo _ _ (fun a0 w => h1.mo _ _ (fun a1 w => h2.mo _ _ (fun a2 w => h3.mo _ _ (fun a3 w => h4.mo _ _ (fun a4 w => ⟨a0, a1, a2, a3, a4, rfl, ms a0 a1 a2 a3 a4 _ _ (fun r q => ⟨r, rfl, q⟩) w⟩) w) w) w) w) w) (fun ds Q Q' k q => by
    obtain ⟨a0, a1, a2, a3, a4, rfl, q⟩ := q
    exact ⟨a0, a1, a2, a3, a4, rfl, ms a0 a1 a2 a3 a4 _ _ (fun r z => k _ z) q⟩) hdb s0 hpl
theorem px_f5 {P : τ0 → τ1 → τ2 → τ3 → τ4 → Prop} {g : τ0 → τ1 → τ2 → τ3 → τ4 → ρ} {P0 : Prop} {a0 : τ0} {P1 : Prop} {a1 : τ1} {P2 : Prop} {a2 : τ2} {P3 : Prop} {a3 : τ3} {P4 : Prop} {a4 : τ4} (F : FnOk X.prog X.w X.K X.mg X.base CX0 n f fd ps (sp5 fun a0 a1 a2 a3 a4 => Wp (P a0 a1 a2 a3 a4) (g a0 a1 a2 a3 a4))) (hr : Room n X.A) (hg : Gl X x) (hm : X.mg x = some (.ref f)) (hk : PySem.W.keepIn X.K (.ref f) = true) (hb : Binds X.K fd ps []) (h0 : WX X c Γ m0 e0 (Wp P0 a0)) (h1 : WX X c Γ m1 e1 (Wp P1 a1)) (h2 : WX X c Γ m2 e2 (Wp P2 a2)) (h3 : WX X c Γ m3 e3 (Wp P3 a3)) (h4 : WX X c Γ m4 e4 (Wp P4 a4)) (s0 : starEach [e0, e1, e2, e3, e4] X.env = (false, eval e0 X.env) :: starEach [e1, e2, e3, e4] X.env := by rfl) (s1 : starEach [e1, e2, e3, e4] X.env = (false, eval e1 X.env) :: starEach [e2, e3, e4] X.env := by rfl) (s2 : starEach [e2, e3, e4] X.env = (false, eval e2 X.env) :: starEach [e3, e4] X.env := by rfl) (s3 : starEach [e3, e4] X.env = (false, eval e3 X.env) :: starEach [e4] X.env := by rfl) (s4 : starEach [e4] X.env = (false, eval e4 X.env) :: starEach [] X.env := by rfl) (hdb : (x == ("__debug__" : Str)) = false := by decide) (hpl : (backTo pos (starEach [e1, e2, e3, e4] X.env)).any (·.1) = false := by rfl) :
    WX X c Γ m (.Call (.Name x p) [e0, e1, e2, e3, e4] [] pos) (Wp (P0 ∧ P1 ∧ P2 ∧ P3 ∧ P4 ∧ P a0 a1 a2 a3 a4) (g a0 a1 a2 a3 a4)) :=
  (wx_f5 F hr hg hm hk hb (fun a0 a1 a2 a3 a4 => mono_wp) h0 h1 h2 h3 h4 s0 s1 s2 s3 s4 hdb hpl).imp (fun Q q => ⟨q.1.1, q.1.2.1, q.1.2.2.1, q.1.2.2.2.1, q.1.2.2.2.2.1, q.1.2.2.2.2.2, q.2⟩) mono_wp
theorem wx_g5 {s : τ0 → τ1 → τ2 → τ3 → τ4 → (ρ → Prop) → Prop} {W0 : (τ0 → Prop) → Prop} {W1 : (τ1 → Prop) → Prop} {W2 : (τ2 → Prop) → Prop} {W3 : (τ3 → Prop) → Prop} {W4 : (τ4 → Prop) → Prop} (F : FnOk X.prog X.w X.K X.mg X.base CX0 n f fd ps (sf5 s)) (hr : Room n X.A) (hg : Gl X x) (hm : X.mg x = some (.ref f)) (hk : PySem.W.keepIn X.K (.ref f) = true) (hb : Binds X.K fd ps []) (ms : ∀ a0 a1 a2 a3 a4, Mono (s a0 a1 a2 a3 a4)) (h0 : WX X c Γ m0 e0 W0) (h1 : WX X c Γ m1 e1 W1) (h2 : WX X c Γ m2 e2 W2) (h3 : WX X c Γ m3 e3 W3) (h4 : WX X c Γ m4 e4 W4) (i : Nat) (hΓ : Γ[i]? = some .fd := by rfl) (hN : X.N[i]? = some y := by rfl) (hv : Vis X.env.scope y := by first | exact Or.inl rfl | exact Or.inr (Or.inl rfl) | exact Or.inr (Or.inr rfl)) (hd1 : (y == ("__debug__" : Str)) = false := by decide) (hcd : (y == ("__classdict__" : Str)) = false := by decide) (s0 : starEach [e0, e1, e2, e3, e4] X.env = (false, eval e0 X.env) :: starEach [e1, e2, e3, e4] X.env := by rfl) (s1 : starEach [e1, e2, e3, e4] X.env = (false, eval e1 X.env) :: starEach [e2, e3, e4] X.env := by rfl) (s2 : starEach [e2, e3, e4] X.env = (false, eval e2 X.env) :: starEach [e3, e4] X.env := by rfl) (s3 : starEach [e3, e4] X.env = (false, eval e3 X.env) :: starEach [e4] X.env := by rfl) (s4 : starEach [e4] X.env = (false, eval e4 X.env) :: starEach [] X.env := by rfl) (sf : starEach [.Name y py, e0, e1, e2, e3, e4] X.env = (false, eval (.Name y py) X.env) :: starEach [e0, e1, e2, e3, e4] X.env := by rfl) (hdb : (x == ("__debug__" : Str)) = false := by decide) (hpl : (backTo pos (starEach [e0, e1, e2, e3, e4] X.env)).any (·.1) = false := by rfl) :
    WX X c Γ m (.Call (.Name x p) [.Name y py, e0, e1, e2, e3, e4] [] pos) (fun Q => W0 fun a0 => W1 fun a1 => W2 fun a2 => W3 fun a3 => W4 fun a4 => s a0 a1 a2 a3 a4 Q) :=
  wx_callF i F hr hg hm hk hb hΓ hN hv hd1 hcd (wa_cons (m := .any) (h0.le0) (wa_cons (m := .any) (h1.le0) (wa_cons (m := .any) (h2.le0) (wa_cons (m := .any) (h3.le0) (wa_cons (m := .any) (h4.le0) wa_nil s4) s3) s2) s1) s0) (fun Q Q' k w => h0.mo _ _ (fun a0 w => h1.mo _ _ (fun a1 w => h2.mo _ _ (fun a2 w => h3.mo _ _ (fun a3 w => h4.mo _ _ (fun a4 w => ms a0 a1 a2 a3 a4 _ _ k w) w) w) w) w) w) (fun Q w => h0.mo _ _ (fun a0 w => h1.mo _ _ (fun a1 w => h2.mo _ _ (fun a2 w => h3.mo _ _ (fun a3 w => h4.mo _ _ (fun a4 w => ⟨a0, a1, a2, a3, a4, rfl, ms a0 a1 a2 a3 a4 _ _ (fun r q => ⟨r, rfl, q⟩) w⟩) w) w) w) w) w) (fun ds Q Q' k q => by
    obtain ⟨a0, a1, a2, a3, a4, rfl, q⟩ := q
    exact ⟨a0, a1, a2, a3, a4, rfl, ms a0 a1 a2 a3 a4 _ _ (fun r z => k _ z) q⟩) hdb sf hpl
def sp6 (s : τ0 → τ1 → τ2 → τ3 → τ4 → τ5 → (ρ → Prop) → Prop) : Sp := sp_ fun ds Q => ∃ a0 : τ0, ∃ a1 : τ1, ∃ a2 : τ2, ∃ a3 : τ3, ∃ a4 : τ4, ∃ a5 : τ5, ds = [enc a0, enc a1, enc a2, enc a3, enc a4, enc a5] ∧ s a0 a1 a2 a3 a4 a5 fun r => Q (enc r)
theorem wx_f6 {s : τ0 → τ1 → τ2 → τ3 → τ4 → τ5 → (ρ → Prop) → Prop} {W0 : (τ0 → Prop) → Prop} {W1 : (τ1 → Prop) → Prop} {W2 : (τ2 → Prop) → Prop} {W3 : (τ3 → Prop) → Prop} {W4 : (τ4 → Prop) → Prop} {W5 : (τ5 → Prop) → Prop} (F : FnOk X.prog X.w X.K X.mg X.base CX0 n f fd ps (sp6 s)) (hr : Room n X.A) (hg : Gl X x) (hm : X.mg x = some (.ref f)) (hk : PySem.W.keepIn X.K (.ref f) = true) (hb : Binds X.K fd ps []) (ms : ∀ a0 a1 a2 a3 a4 a5, Mono (s a0 a1 a2 a3 a4 a5)) (h0 : WX X c Γ m0 e0 W0) (h1 : WX X c Γ m1 e1 W1) (h2 : WX X c Γ m2 e2 W2) (h3 : WX X c Γ m3 e3 W3) (h4 : WX X c Γ m4 e4 W4) (h5 : WX X c Γ m5 e5 W5) (s0 : starEach [e0, e1, e2, e3, e4, e5] X.env = (false, eval e0 X.env) :: starEach [e1, e2, e3, e4, e5] X.env := by rfl) (s1 : starEach [e1, e2, e3, e4, e5] X.env = (false, eval e1 X.env) :: starEach [e2, e3, e4, e5] X.env := by rfl) (s2 : starEach [e2, e3, e4, e5] X.env = (false, eval e2 X.env) :: starEach [e3, e4, e5] X.env := by rfl) (s3 : starEach [e3, e4, e5] X.env = (false, eval e3 X.env) :: starEach [e4, e5] X.env := by rfl) (s4 : starEach [e4, e5] X.env = (false, eval e4 X.env) :: starEach [e5] X.env := by rfl) (s5 : starEach [e5] X.env = (false, eval e5 X.env) :: starEach [] X.env := by rfl) (hdb : (x == ("__debug__" : Str)) = false := by decide) (hpl : (backTo pos (starEach [e1, e2, e3, e4, e5] X.env)).any (·.1) = false := by rfl) :
    WX X c Γ m (.Call (.Name x p) [e0, e1, e2, e3, e4, e5] [] pos) (fun Q => W0 fun a0 => W1 fun a1 => W2 fun a2 => W3 fun a3 => W4 fun a4 => W5 fun a5 => s a0 a1 a2 a3 a4 a5 Q) :=
  wx_call F hr hg hm hk hb (wa_cons (m := .any) (h0.le0) (wa_cons (m := .any) (h1.le0) (wa_cons (m := .any) (h2.le0) (wa_cons (m := .any) (h3.le0) (wa_cons (m := .any) (h4.le0) (wa_cons (m := .any) (h5.le0) wa_nil s5) s4) s3) s2) s1) s0) (fun Q Q' k w => h0.mo _ _ (fun a0 w => h1.mo _ _ (fun a1 w => h2.mo _ _ (fun a2 w => h3.mo _ _ (fun a3 w => h4.mo _ _ (fun a4 w => h5.mo _ _ (fun a5 w => ms a0 a1 a2 a3 a4 a5 _ _ k w) w) w) w) w) w) w) (fun Q w => h0.mo _ _ (fun a0 w => h1.mo _ _ (fun a1 w => h2.mo _ _ (fun a2 w => h3.mo _ _ (fun a3 w => h4.mo _ _ (fun a4 w => h5.mo _ _ (fun a5 w => ⟨a0, a1, a2, a3, a4, a5, rfl, ms a0 a1 a2 a3 a4 a5 _ _ (fun r q => ⟨r, rfl, q⟩) w⟩) w) w) w) w) w) w) (fun ds Q Q' k q => by
    obtain ⟨a0, a1, a2, a3, a4, a5, rfl, q⟩ := q
    exact ⟨a0, a1, a2, a3, a4, a5, rfl, ms a0 a1 a2 a3 a4 a5 _ _ (fun r z => k _ z) q⟩) hdb s0 hpl
theorem px_f6 {P : τ0 → τ1 → τ2 → τ3 → τ4 → τ5 → Prop} {g : τ0 → τ1 → τ2 → τ3 → τ4 → τ5 → ρ} {P0 : Prop} {a0 : τ0} {P1 : Prop} {a1 : τ1} {P2 : Prop} {a2 : τ2} {P3 : Prop} {a3 : τ3} {P4 : Prop} {a4 : τ4} {P5 : Prop} {a5 : τ5} (F : FnOk X.prog X.w X.K X.mg X.base CX0 n f fd ps (sp6 fun a0 a1 a2 a3 a4 a5 => Wp (P a0 a1 a2 a3 a4 a5) (g a0 a1 a2 a3 a4 a5))) (hr : Room n X.A) (hg : Gl X x) (hm : X.mg x = some (.ref f)) (hk : PySem.W.keepIn X.K (.ref f) = true) (hb : Binds X.K fd ps []) (h0 : WX X c Γ m0 e0 (Wp P0 a0)) (h1 : WX X c Γ m1 e1 (Wp P1 a1)) (h2 : WX X c Γ m2 e2 (Wp P2 a2)) (h3 : WX X c Γ m3 e3 (Wp P3 a3)) (h4 : WX X c Γ m4 e4 (Wp P4 a4)) (h5 : WX X c Γ m5 e5 (Wp P5 a5)) (s0 : starEach [e0, e1, e2, e3, e4, e5] X.env = (false, eval e0 X.env) :: starEach [e1, e2, e3, e4, e5] X.env := by rfl) (s1 : starEach [e1, e2, e3, e4, e5] X.env = (false, eval e1 X.env) :: starEach [e2, e3, e4, e5] X.env := by rfl) (s2 : starEach [e2, e3, e4, e5] X.env = (false, eval e2 X.env) :: starEach [e3, e4, e5] X.env := by rfl) (s3 : starEach [e3, e4, e5] X.env = (false, eval e3 X.env) :: starEach [e4, e5] X.env := by rfl) (s4 : starEach [e4, e5] X.env = (false, eval e4 X.env) :: starEach [e5] X.env := by rfl) (s5 : starEach [e5] X.env = (false, eval e5 X.env) :: starEach [] X.env := by rfl) (hdb : (x == ("__debug__" : Str)) = false := by decide) (hpl : (backTo pos (starEach [e1, e2, e3, e4, e5] X.env)).any (·.1) = false := by rfl) :
    WX X c Γ m (.Call (.Name x p) [e0, e1, e2, e3, e4, e5] [] pos) (Wp (P0 ∧ P1 ∧ P2 ∧ P3 ∧ P4 ∧ P5 ∧ P a0 a1 a2 a3 a4 a5) (g a0 a1 a2 a3 a4 a5)) :=
  (wx_f6 F hr hg hm hk hb (fun a0 a1 a2 a3 a4 a5 => mono_wp) h0 h1 h2 h3 h4 h5 s0 s1 s2 s3 s4 s5 hdb hpl).imp (fun Q q => ⟨q.1.1, q.1.2.1, q.1.2.2.1, q.1.2.2.2.1, q.1.2.2.2.2.1, q.1.2.2.2.2.2.1, q.1.2.2.2.2.2.2, q.2⟩) mono_wp
end
end DL
namespace DL
open PySem PySem.Spec PyProof.Rows L2
open Enc (enc)

/-! ## slots seen as less -/
def LDle : LD → LD → Prop
  | _, .no => True
  | .d m x, .d m' x' => m'.le m = true ∧ m' ≠ .any ∧ x = x'
  | .own m xs, .own m' xs' => m'.le m = true ∧ m' ≠ .any ∧ xs = xs'
  | .own m xs, .d m' x => m'.le m = true ∧ m' ≠ .any ∧ x = .list xs
  | .frs x, .frs x' => x = x'
  | .frs x, .d m' x' => m' = .pl ∧ x = x'
  | .fd, .fd => True
  | _, _ => False
def wk : List LD → List LD → Prop
  | _, [] => True
  | a :: as, b :: bs => LDle a b ∧ wk as bs
  | [], _ :: _ => False
theorem wk_nil {Γ : List LD} : wk Γ [] := by cases Γ <;> trivial
theorem wk_no {a : LD} {as bs : List LD} (h : wk as bs) : wk (a :: as) (.no :: bs) := ⟨by cases a <;> trivial, h⟩
theorem wk_d {m m' : Rk} {x : PyData} {as bs : List LD} (h : wk as bs) (hm : m'.le m = true := by decide) (hn : m' ≠ .any := by decide) : wk (.d m x :: as) (.d m' x :: bs) := ⟨⟨hm, hn, rfl⟩, h⟩
theorem wk_own {m m' : Rk} {x : List PyData} {as bs : List LD} (h : wk as bs) (hm : m'.le m = true := by decide) (hn : m' ≠ .any := by decide) : wk (.own m x :: as) (.own m' x :: bs) := ⟨⟨hm, hn, rfl⟩, h⟩
theorem wk_fz {m m' : Rk} {x : List PyData} {as bs : List LD} (h : wk as bs) (hm : m'.le m = true := by decide) (hn : m' ≠ .any := by decide) : wk (.own m x :: as) (.d m' (.list x) :: bs) := ⟨⟨hm, hn, rfl⟩, h⟩
theorem wk_frs {x : PyData} {as bs : List LD} (h : wk as bs) : wk (.frs x :: as) (.frs x :: bs) := ⟨rfl, h⟩
theorem wk_bw {x : PyData} {as bs : List LD} (h : wk as bs) : wk (.frs x :: as) (.d .pl x :: bs) := ⟨⟨rfl, rfl⟩, h⟩
theorem wk_fd {as bs : List LD} (h : wk as bs) : wk (.fd :: as) (.fd :: bs) := ⟨trivial, h⟩
theorem wk_get : ∀ {Γ Γ' : List LD} {i : Nat} {l : LD}, wk Γ Γ' → Γ'[i]? = some l → ∃ l0, Γ[i]? = some l0 ∧ LDle l0 l
  | _, [], _, _, _, e => by simp at e
  | a :: as, b :: bs, 0, _, h, e => by simp at e; subst e; exact ⟨a, rfl, h.1⟩
  | a :: as, b :: bs, i + 1, _, h, e => by
    obtain ⟨l0, h1, h2⟩ := wk_get h.2 (by simpa using e)
    exact ⟨l0, by simpa using h1, h2⟩
  | [], _ :: _, _, _, h, _ => nomatch h
theorem wk_len : ∀ {Γ Γ' : List LD}, wk Γ Γ' → Γ'.length ≤ Γ.length
  | _, [], _ => Nat.zero_le _
  | a :: as, b :: bs, h => Nat.succ_le_succ (wk_len h.2)
  | [], _ :: _, h => nomatch h
def keeps : LD → Bool
  | .own _ _ => true
  | .frs _ => true
  | _ => false
section
variable {c : Cf} {Z : Rgn} {S S' : Nat → Rgn} {H H' : Hp} {σ σ' : L2.St} {Γ Γ' : List LD}
theorem Rep.wk (R : Rep c Z S H σ Γ) (w : DL.wk Γ Γ') : ∃ S', (∀ i a, S' i a → S i a) ∧ Rep c Z S' H σ Γ' := by
  let S' : Nat → Rgn := fun i a => S i a ∧ ∃ l, Γ'[i]? = some l ∧ keeps l = true
  have hS : ∀ i a, S' i a → S i a := fun i a h => h.1
  have hm : ∀ a, Mo c Z S' a → Mo c Z S a := fun a h => h.imp id fun h => h.imp (fun ⟨i, h⟩ => ⟨i, hS i a h⟩) id
  refine ⟨S', hS, fun i l q => ?_, fun i j a h1 h2 => R.disj i j a h1.1 h2.1, fun i a h => R.zs i a h.1, fun a n => ⟨(R.dom a n).1, fun z => (R.dom a n).2 (hm a z)⟩, fun F q => ⟨(R.feed F q).1, fun z => (R.feed F q).2 (hm _ z)⟩, Nat.le_trans (wk_len w) R.len, R.zf⟩
  obtain ⟨l0, q0, le⟩ := wk_get w q
  have r := R.slot i l0 q0
  have rg : ∀ {m m' : Rk}, m'.le m = true → ∀ a, Rg c (Mo c Z S) m a → Rg c (Mo c Z S') m' a := fun h a ha => rg_sub hm _ a (rg_le (fun a => mo_fa) h a ha)
  cases l with
  | no => trivial
  | d m' x' =>
    cases l0 with
    | d m x =>
      obtain ⟨h1, h2, rfl⟩ := le
      obtain ⟨_, v, e, d⟩ := r
      exact ⟨h2, v, e, DA.map (fun a xs ha r => ⟨rg h1 a ha, r⟩) (fun _ _ r => r) _ d⟩
    | own m xs =>
      obtain ⟨h1, h2, rfl⟩ := le
      obtain ⟨_, a, vs, e, s, f, h, z, d⟩ := r
      refine ⟨h2, _, e, .lst ?_ h z (DAs.map (fun a xs ha r => ⟨rg h1 a ha, r⟩) (fun _ _ r => r) _ d)⟩
      have nm : ¬ Mo c Z S' a := fun y => by
        rcases y with y | ⟨j, y⟩ | y
        · exact (R.zs i a s).1 y
        · have := R.disj i j a s y.1
          subst this
          obtain ⟨l, q', k⟩ := y.2
          rw [q] at q'
          cases q'
          cases k
        · exact (R.zs i a s).2 y
      cases m' with
      | any => exact absurd rfl h2
      | pl => exact nm
      | fr => exact ⟨nm, f⟩
    | no => exact False.elim le
    | frs x =>
      obtain ⟨rfl, rfl⟩ := le
      obtain ⟨v, e, d⟩ := r
      refine ⟨by decide, v, e, DA.map (fun a xs ha r => ⟨fun y => ?_, r⟩) (fun _ _ r => r) _ d⟩
      rcases y with y | ⟨j, y⟩ | y
      · exact (R.zs i a ha).1 y
      · have := R.disj i j a ha y.1
        subst this
        obtain ⟨l, q', k⟩ := y.2
        rw [q] at q'
        cases q'
        cases k
      · exact (R.zs i a ha).2 y
    | fd => exact False.elim le
  | own m' xs' =>
    cases l0 with
    | own m xs =>
      obtain ⟨h1, h2, rfl⟩ := le
      obtain ⟨_, a, vs, e, s, f, h, z, d⟩ := r
      exact ⟨h2, a, vs, e, ⟨s, _, q, rfl⟩, f, h, z, DAs.map (fun a xs ha r => ⟨rg h1 a ha, r⟩) (fun _ _ r => r) _ d⟩
    | no => exact False.elim le
    | d m x => exact False.elim le
    | frs x => exact False.elim le
    | fd => exact False.elim le
  | frs x' =>
    cases l0 with
    | frs x =>
      obtain rfl : x = x' := le
      obtain ⟨v, e, d⟩ := r
      exact ⟨v, e, DA.map (fun a xs ha r => ⟨⟨ha, _, q, rfl⟩, r⟩) (fun _ _ r => r) _ d⟩
    | no => exact False.elim le
    | d m x => exact False.elim le
    | own m xs => exact False.elim le
    | fd => exact False.elim le
  | fd =>
    cases l0 with
    | fd => exact r
    | no => exact False.elim le
    | d m x => exact False.elim le
    | own m xs => exact False.elim le
    | frs x => exact False.elim le
/-- from state to state -/
def EvS (c : Cf) (Z : Rgn) (S : Nat → Rgn) (H : Hp) (S' : Nat → Rgn) (H' : Hp) : Prop := Evo (Mo c Z S) H H' ∧ ∀ a, Mo c Z S' a → Mo c Z S a ∨ H a = none
theorem EvS.refl (c : Cf) (Z : Rgn) (S : Nat → Rgn) (H : Hp) : EvS c Z S H S H := ⟨.refl _ _, fun a z => .inl z⟩
theorem EvS.of_sub {S S' : Nat → Rgn} (h : ∀ i a, S' i a → S i a) : EvS c Z S H S' H := ⟨.refl _ _, fun a z => .inl (z.imp id fun z => z.imp (fun ⟨i, z⟩ => ⟨i, h i a z⟩) id)⟩
theorem EvS.trans {S S1 S2 : Nat → Rgn} {H H1 H2 : Hp} (a : EvS c Z S H S1 H1) (b : EvS c Z S1 H1 S2 H2) : EvS c Z S H S2 H2 :=
  ⟨a.1.trans b.1 a.2, fun x z => by
    rcases b.2 x z with z | z
    · exact a.2 x z
    · rcases a.1.free z with z | z
      · exact .inr z
      · exact .inl z⟩
theorem EvS.of_fa (e : Evo (fa c) H H') : EvS c Z S H S H' := ⟨e.mono fun a => mo_fa, fun a z => .inl z⟩
/-- without slots -/
theorem Rep.bare (R : Rep c Z S H σ Γ) : Rep c Z S H [] [] := ⟨fun i l q => by simp at q, R.disj, R.zs, R.dom, R.feed, Nat.le_refl _, R.zf⟩
/-- an own list comes to a slot -/
theorem Rep.own {i : Nat} {m : Rk} {l : Addr} {vs : List V} {xs : List PyData} (R : Rep c Z S H σ Γ) (R' : Rep c Z S H' σ Γ) (nm : m ≠ .any) (n : H l = none) (h : H' l = some (.lst vs)) (z : vs.length ≤ sizeLine) (d : DAs (fun a => Rg c (Mo c Z S) m a ∧ a ≠ l) H' vs xs)
    (ev : Evo (fa c) H H') : ∃ S', EvS c Z S H S' H' ∧ Rep c Z S' H' (σ.set i (some (.ref l))) (Γ.set i (.own m xs)) := by
  let S' : Nat → Rgn := fun j a => if j = i then (a = l ∧ i < Γ.length) else S j a
  have hS : ∀ j a, S' j a → S j a ∨ a = l := fun j a h => by
    by_cases e : j = i
    · simp only [S', e, if_true] at h; exact .inr h.1
    · simp only [S', e, if_false] at h; exact .inl h
  have nl := R.dom l n
  have hm : ∀ a, a ≠ l → Mo c Z S' a → Mo c Z S a := fun a ne h => h.imp id fun h => h.imp (fun ⟨j, h⟩ => ⟨j, (hS j a h).resolve_right ne⟩) id
  have rg : ∀ (m : Rk) a, a ≠ l → Rg c (Mo c Z S) m a → Rg c (Mo c Z S') m a := fun m a ne h => by
    cases m with
    | any => exact h
    | pl => exact fun z => h (hm a ne z)
    | fr => exact ⟨fun z => h.1 (hm a ne z), h.2⟩
  refine ⟨S', ⟨ev.mono fun a => mo_fa, fun a y => ?_⟩, fun j lj q => ?_, fun j k a h1 h2 => ?_, fun j a h1 => ?_, fun a na => ?_, fun F q => ?_, by simpa using R.len, R.zf⟩
  · by_cases e : a = l
    · subst e; exact .inr n
    · exact .inl (hm a e y)
  · by_cases hj : j = i
    · subst hj
      by_cases hl : j < Γ.length
      · rw [List.getElem?_set_self hl] at q
        cases q
        rw [List.getElem?_set_self (Nat.lt_of_lt_of_le hl R.len)]
        exact ⟨nm, l, vs, rfl, by simp only [S', if_true]; simp [hl], nl.1, h, z, DAs.map (fun a xs ha r => ⟨rg m a ha.2 ha.1, r⟩) (fun _ _ r => r) _ d⟩
      · rw [List.getElem?_eq_none (by simpa using hl)] at q
        cases q
    · rw [List.getElem?_set_ne (Ne.symm hj)] at q ⊢
      refine (R.slot j lj q).map (fun m a us nm ha r => ⟨rg m a (fun e => by subst e; rw [n] at r; cases r) ha, ev a _ (.inl (rg_nfa (fun a => mo_fa) m a ha)) r⟩) (fun a us ha r => ⟨?_, ev a _ (.inl (R.zs j a ha).2) r⟩) fun a us r => ev a _ (.inr rfl) r
      show S' j a
      simp only [S', hj, if_false]
      exact ha
  · by_cases e1 : j = i
    · by_cases e2 : k = i
      · rw [e1, e2]
      · simp only [S', e1, e2, if_true, if_false] at h1 h2
        obtain ⟨rfl, _⟩ := h1
        exact absurd (.inr (.inl ⟨k, h2⟩)) nl.2
    · by_cases e2 : k = i
      · simp only [S', e1, e2, if_true, if_false] at h1 h2
        obtain ⟨rfl, _⟩ := h2
        exact absurd (.inr (.inl ⟨j, h1⟩)) nl.2
      · simp only [S', e1, e2, if_false] at h1 h2
        exact R.disj j k a h1 h2
  · rcases hS j a h1 with h1 | rfl
    · exact R.zs j a h1
    · exact ⟨fun z => nl.2 (.inl z), fun z => nl.2 (mo_fa z)⟩
  · have ne : a ≠ l := fun e => by subst e; rw [h] at na; cases na
    exact ⟨(R'.dom a na).1, fun z => (R'.dom a na).2 (hm a ne z)⟩
  · refine ⟨(R'.feed F q).1, fun z => (R'.feed F q).2 (hm _ (fun e => ?_) z)⟩
    have := (R.feed F q).1.2.1
    rw [e, n] at this
    cases this
/-- an own list is written -/
theorem Rep.put {i : Nat} {m : Rk} {l : Addr} {vs vs' : List V} {xs xs' : List PyData} (R : Rep c Z S H σ Γ) (q : Γ[i]? = some (.own m xs)) (e : σ[i]? = some (some (.ref l))) (hl : H l = some (.lst vs)) (z : vs'.length ≤ sizeLine) (d : DAs (Rg c (Mo c Z S) m) H vs' xs') :
    EvS c Z S H S (upd H l (.lst vs')) ∧ Rep c Z S (upd H l (.lst vs')) σ (Γ.set i (.own m xs')) := by
  obtain ⟨nm, a, us, e1, s, f, h1, z1, d1⟩ := R.slot i _ q
  rw [e] at e1
  cases e1
  have mo : Mo c Z S l := .inr (.inl ⟨i, s⟩)
  have kt : ∀ a xs, H a = some (.tup xs) → upd H l (.lst vs') a = some (.tup xs) := fun a us r => by rw [upd_ne (fun e => by subst e; rw [hl] at r; cases r)]; exact r
  have kl : ∀ a us, ¬ Mo c Z S a → H a = some (.lst us) → upd H l (.lst vs') a = some (.lst us) := fun a us n r => by rw [upd_ne (fun e => n (by subst e; exact mo))]; exact r
  refine ⟨⟨(evo_put hl).mono fun a e => by rw [e]; exact mo, fun a z => .inl z⟩, fun j lj qj => ?_, R.disj, R.zs, fun a na => ?_, fun F hF => ?_, by simpa using R.len, R.zf⟩
  · by_cases hj : j = i
    · subst hj
      have hlt := (List.getElem?_eq_some_iff.mp q).1
      rw [List.getElem?_set_self hlt] at qj
      cases qj
      exact ⟨nm, l, vs', e, s, f, upd_same, z, DAs.map (fun a xs ha r => ⟨ha, kl a _ (rg_nm nm a ha) r⟩) kt _ d⟩
    · rw [List.getElem?_set_ne (Ne.symm hj)] at qj
      refine (R.slot j lj qj).map (fun m a us nm ha r => ⟨ha, kl a _ (rg_nm nm a ha) r⟩) (fun a us ha r => ⟨ha, ?_⟩) kt
      rw [upd_ne (fun e => by subst e; exact hj (R.disj j i _ ha s))]
      exact r
  · have ne : a ≠ l := fun e => by subst e; rw [upd_same] at na; cases na
    rw [upd_ne ne] at na
    exact R.dom a na
  · obtain ⟨⟨⟨i', b, s', h1', h2⟩, h3, h4⟩, h5⟩ := R.feed F hF
    have n1 : F.a ≠ l := fun e => (R.zs i l s).2 ⟨F, hF, e.symm⟩
    have n2 : F.ca ≠ l := fun e => h5 (e ▸ mo)
    exact ⟨⟨⟨i', b, s', by rw [upd_ne n1]; exact h1', h2⟩, by rw [upd_ne n2]; exact h3, h4⟩, h5⟩
end
end DL

namespace DL
open PySem PySem.Spec PyProof.Rows L2
open Enc (enc)
section
variable {α β γ δ ρ ς ς1 : Type} [Enc α] [Enc β] [Enc γ] [Enc δ] [Enc ρ]
variable {X : Cx} {c : Cf} {Γ Γ' : List LD} {m m' m1 m2 rm : Rk} {e e1 e2 e3 e4 tg : Expr} {es : List Expr} {pos p p2 px : Pos} {k k1 : Bool}

/-! ## blocks -/
def tB (c : Cf) (rm : Rk) (G : ς → List LD) (Γ : List LD) (W : (ς → Prop) → (ρ → Prop) → Prop) : TS := fun D σ H => ∃ Z S, Rep c Z S H σ Γ ∧
  W (fun s => ∀ σ' H' S', EvS c Z S H S' H' → Rep c Z S' H' σ' (G s) → D.nx σ' H') (fun r => ∀ v H' S', EvS c Z S H S' H' → Rep c Z S' H' [] [] → DA (Rg c (Mo c Z S') rm) H' v (enc r) → D.rt v H')
def MonoB (W : (ς → Prop) → (ρ → Prop) → Prop) : Prop := ∀ N N' R R', (∀ s, N s → N' s) → (∀ r, R r → R' r) → W N R → W N' R'
structure BX (X : Cx) (c : Cf) (rm : Rk) (G : ς → List LD) (Γ : List LD) (sts : List Stmt) (W : (ς → Prop) → (ρ → Prop) → Prop) : Prop where
  mo : MonoB W
  run : PSs X sts (tB c rm G Γ W)
theorem BX.imp {G : ς → List LD} {sts : List Stmt} {W W' : (ς → Prop) → (ρ → Prop) → Prop} (h : BX X c rm G Γ sts W) (q : ∀ N R, W' N R → W N R) (mo : MonoB W') : BX X c rm G Γ sts W' :=
  ⟨mo, PSs.mono h.run fun D σ H ⟨Z, S, R, w⟩ => ⟨Z, S, R, q _ _ w⟩⟩
theorem PSs.ex {X : Cx} {e : List Stmt} {ι : Type} {t : ι → TS} (h : ∀ i, PSs X e (t i)) : PSs X e (fun D σ H => ∃ i, t i D σ H) := ⟨fun pins s σ H Q I ⟨i, q⟩ => (h i).run pins s σ H Q I q⟩
/-- moving on to a later state -/
theorem tB_at {G : ς → List LD} {W : (ς → Prop) → (ρ → Prop) → Prop} (mo : MonoB W) {D : Ends} {Z : Rgn} {S S1 : Nat → Rgn} {H H1 : Hp} {σ1 : L2.St} (ev : EvS c Z S H S1 H1) (R1 : Rep c Z S1 H1 σ1 Γ)
    (w : W (fun s => ∀ σ' H' S', EvS c Z S H S' H' → Rep c Z S' H' σ' (G s) → D.nx σ' H') (fun r => ∀ v H' S', EvS c Z S H S' H' → Rep c Z S' H' [] [] → DA (Rg c (Mo c Z S') rm) H' v (enc r) → D.rt v H')) : tB c rm G Γ W D σ1 H1 :=
  ⟨Z, S1, R1, mo _ _ _ _ (fun s q σ' H' S' ev' R' => q σ' H' S' (ev.trans ev') R') (fun r q v H' S' ev' R' d => q v H' S' (ev.trans ev') R' d) w⟩
theorem bx_nil {G : ς → List LD} (s : ς) (h : wk Γ (G s)) : BX (ρ := ρ) X c rm G Γ [] (fun N _ => N s) :=
  ⟨fun _ _ _ _ kn _ q => kn _ q, PSs.mono pss_nil fun D σ H ⟨Z, S, R, w⟩ => by
    obtain ⟨S', hs, R'⟩ := R.wk h
    exact w σ H S' (.of_sub hs) R'⟩
/-- slots seen as less -/
theorem bx_wk {G : ς → List LD} {sts : List Stmt} {W : (ς → Prop) → (ρ → Prop) → Prop} (h : wk Γ Γ') (hb : BX X c rm G Γ' sts W) : BX X c rm G Γ sts W :=
  ⟨hb.mo, PSs.mono hb.run fun D σ H ⟨Z, S, R, w⟩ => by
    obtain ⟨S', hs, R'⟩ := R.wk h
    exact tB_at hb.mo (.of_sub hs) R' w⟩
/-- name = .. -/
def AS (X : Cx) (i : Nat) (st : Stmt) (t : TE) : Prop := ∃ te, PS X st (tAsg te (gName i)) ∧ ∀ σ H Q, t σ H Q → te σ H Q
theorem as_pe {i : Nat} {x : Str} {t : TE} (he : PE X e t) (hN : X.N.Nodup) (hi : X.N[i]? = some x := by rfl) (hx : Loc X.env.scope x := by first | exact Or.inl rfl | exact Or.inr rfl) (hs : swapsWith e (some (.Name x px)) pos.line X.env = pure false := by rfl)
    (hf : X.fn x = true ∨ X.env.scope.names.lookup x = some .local := by first | exact .inl rfl | exact .inr rfl) : AS X i (.Assign [.Name x px] e pos) t := ⟨t, ps_set hN hi hx he hs hf, fun _ _ _ h => h⟩
theorem bx_set {G : ς → List LD} {i : Nat} {st : Stmt} {rest : List Stmt} {W : (α → Prop) → Prop} {Wr : α → (ς → Prop) → (ρ → Prop) → Prop} (h : AS X i st (tW c Γ m W)) (mo : Mono W) (hr : ∀ a, BX X c rm G (Γ.set i (.d m (enc a))) rest (Wr a)) (nm : m ≠ .any := by decide) :
    BX X c rm G Γ (st :: rest) (fun N R => W fun a => Wr a N R) :=
  ⟨fun N N' R R' kn kr w => mo _ _ (fun a w => (hr a).mo N N' R R' kn kr w) w, by
    obtain ⟨te, h1, h2⟩ := h
    refine PSs.mono (pss_cons h1 (PSs.ex fun a => (hr a).run)) fun D σ H ⟨Z, S, R, w⟩ => ?_
    exact h2 σ H _ ⟨Z, S, R, mo _ _ (fun a w v H' ev R' d => ⟨a, tB_at (hr a).mo (.of_fa ev) (R'.set nm d) w⟩) w⟩⟩
/-- x = e -/
theorem bx_asg {G : ς → List LD} {i : Nat} {x : Str} {rest : List Stmt} {W : (α → Prop) → Prop} {Wr : α → (ς → Prop) → (ρ → Prop) → Prop} (he : WX X c Γ m e W) (hN : X.N.Nodup) (hr : ∀ a, BX X c rm G (Γ.set i (.d m (enc a))) rest (Wr a)) (hi : X.N[i]? = some x := by rfl) (hx : Loc X.env.scope x := by first | exact Or.inl rfl | exact Or.inr rfl)
    (hs : swapsWith e (some (.Name x px)) pos.line X.env = pure false := by rfl) (hf : X.fn x = true ∨ X.env.scope.names.lookup x = some .local := by first | exact .inl rfl | exact .inr rfl) (nm : m ≠ .any := by decide) :
    BX X c rm G Γ (.Assign [.Name x px] e pos :: rest) (fun N R => W fun a => Wr a N R) := bx_set (as_pe he.run hN hi hx hs hf) he.mo hr nm
theorem bx_setO {G : ς → List LD} {i : Nat} {st : Stmt} {rest : List Stmt} {W : (List α → Prop) → Prop} {Wr : List α → (ς → Prop) → (ρ → Prop) → Prop} (h : AS X i st (tN c Γ m W)) (mo : Mono W) (hr : ∀ a : List α, BX X c rm G (Γ.set i (.own m (a.map enc))) rest (Wr a)) (nm : m ≠ .any := by decide) :
    BX X c rm G Γ (st :: rest) (fun N R => W fun a => Wr a N R) :=
  ⟨fun N N' R R' kn kr w => mo _ _ (fun a w => (hr a).mo N N' R R' kn kr w) w, by
    obtain ⟨te, h1, h2⟩ := h
    refine PSs.mono (pss_cons h1 (PSs.ex fun a => (hr a).run)) fun D σ H ⟨Z, S, R, w⟩ => ?_
    refine h2 σ H _ ⟨Z, S, R, mo _ _ (fun a w l vs H' ev R' n r z d => ?_) w⟩
    obtain ⟨S', ev', R1⟩ := R.own R' nm n r z d ev
    exact ⟨a, tB_at (hr a).mo ev' R1 w⟩⟩
/-- x = [..], x's own -/
theorem bx_own {G : ς → List LD} {i : Nat} {x : Str} {rest : List Stmt} {W : (List α → Prop) → Prop} {Wr : List α → (ς → Prop) → (ρ → Prop) → Prop} (he : WN X c Γ m e W) (hN : X.N.Nodup) (hr : ∀ a : List α, BX X c rm G (Γ.set i (.own m (a.map enc))) rest (Wr a)) (hi : X.N[i]? = some x := by rfl) (hx : Loc X.env.scope x := by first | exact Or.inl rfl | exact Or.inr rfl)
    (hs : swapsWith e (some (.Name x px)) pos.line X.env = pure false := by rfl) (hf : X.fn x = true ∨ X.env.scope.names.lookup x = some .local := by first | exact .inl rfl | exact .inr rfl) (nm : m ≠ .any := by decide) :
    BX X c rm G Γ (.Assign [.Name x px] e pos :: rest) (fun N R => W fun a => Wr a N R) := bx_setO (as_pe he.2 hN hi hx hs hf) he.1 hr nm
/-- x = [.. for ..], x a plain local -/
theorem as_lc {elt it : Expr} {ifs : List Expr} {scope : Scope} {own : List (Str × Nat)} {g : TG} {W : (List α → Prop) → Prop} {Wt : α → (Bool → Prop) → Prop} {We : α → (β → Prop) → Prop} {Γe : α → List LD} {i : Nat} {y : Str} {py spos : Pos}
    (hc : X.calm = true) (hN : X.N.Nodup) (hy : X.N[i]? = some y) (hyl : X.env.scope.names.lookup y = some .local) (hsw : swapsWith (.ListComp elt [⟨tg, it, ifs, 0⟩] scope pos) (some (.Name y py)) spos.line X.env = pure true)
    (ok : BlkOk X.N X.env.scope scope own) (hi : WI X c Γ k m1 tg it W) (ct : CT c Γ (own.map (·.2)) m1 g Γe) (hg : ∀ s H C cl fp, PG (Bk X scope s H C cl fp) tg g)
    (ht : ∀ x s H C cl fp, WTs (Bk X scope s H C cl fp) c (Γe x) ifs (Wt x)) (he : ∀ x s H C cl fp, WX (Bk X scope s H C cl fp) c (Γe x) m elt (We x)) (nm : m ≠ .any := by decide) (hs : ∀ x, foldedSetIterable it X.env x = pure x := by intro _; rfl) :
    AS X i (.Assign [.Name y py] (.ListComp elt [⟨tg, it, ifs, 0⟩] scope pos) spos) (tN c Γ m (fun Q => W fun xs => lcW Wt We xs [] Q)) ∧ Mono (fun Q => W fun xs => lcW Wt We xs [] Q) := by
  have mt : ∀ x, Mono (Wt x) := fun x => (ht x {} (fun _ => none) 0 [] []).mo
  have me : ∀ x, Mono (We x) := fun x => (he x {} (fun _ => none) 0 [] []).mo
  exact ⟨⟨_, ps_setLc hc hN hy hyl hsw hi.run ok hg (fun s H C cl fp => PTs.ex fun x => (ht x s H C cl fp).run) (fun s H C cl fp => PE.ex fun x => (he x s H C cl fp).run) hs, fun σ H Q h => lc_ok hi.mo mt me ct nm h⟩,
    fun _ _ k w => hi.mo _ _ (fun xs w => lcW_mono mt me xs [] _ _ k w) w⟩
theorem AS.imp {i : Nat} {st : Stmt} {t t' : TE} (h : AS X i st t) (k : ∀ σ H Q, t' σ H Q → t σ H Q) : AS X i st t' := by
  obtain ⟨te, h1, h2⟩ := h
  exact ⟨te, h1, fun σ H Q q => h2 σ H Q (k σ H Q q)⟩
theorem tN_imp {W W' : (List α → Prop) → Prop} (q : ∀ Q, W' Q → W Q) {σ : L2.St} {H : Hp} {Q : VK} (h : tN c Γ m W' σ H Q) : tN c Γ m W σ H Q := by
  obtain ⟨Z, S, R, w⟩ := h
  exact ⟨Z, S, R, q _ w⟩
theorem as_lcP {elt it : Expr} {ifs : List Expr} {scope : Scope} {own : List (Str × Nat)} {g : TG} {P : Prop} {xs : List α} {Pt : α → Prop} {bt : α → Bool} {Pe : α → Prop} {f : α → β} {Γe : α → List LD} {i : Nat} {y : Str} {py spos : Pos}
    (hc : X.calm = true) (hN : X.N.Nodup) (hy : X.N[i]? = some y) (hyl : X.env.scope.names.lookup y = some .local) (hsw : swapsWith (.ListComp elt [⟨tg, it, ifs, 0⟩] scope pos) (some (.Name y py)) spos.line X.env = pure true)
    (ok : BlkOk X.N X.env.scope scope own) (hi : WI X c Γ k m1 tg it (Wp P xs)) (ct : CT c Γ (own.map (·.2)) m1 g Γe) (hg : ∀ s H C cl fp, PG (Bk X scope s H C cl fp) tg g)
    (ht : ∀ x s H C cl fp, WTs (Bk X scope s H C cl fp) c (Γe x) ifs (Wp (Pt x) (bt x))) (he : ∀ x s H C cl fp, WX (Bk X scope s H C cl fp) c (Γe x) m elt (Wp (Pe x) (f x))) (nm : m ≠ .any := by decide) (hs : ∀ x, foldedSetIterable it X.env x = pure x := by intro _; rfl) :
    AS X i (.Assign [.Name y py] (.ListComp elt [⟨tg, it, ifs, 0⟩] scope pos) spos) (tN c Γ m (Wp (P ∧ ∀ x ∈ xs, Pt x ∧ (bt x = true → Pe x)) ((xs.filter bt).map f))) :=
  (as_lc hc hN hy hyl hsw ok hi ct hg ht he nm hs).1.imp fun σ H Q => tN_imp fun Q q => ⟨q.1.1, lcW_pure xs [] Q q.1.2 (by simpa using q.2)⟩
theorem as_lcP0 {elt it : Expr} {scope : Scope} {own : List (Str × Nat)} {g : TG} {P : Prop} {xs : List α} {Pe : α → Prop} {f : α → β} {Γe : α → List LD} {i : Nat} {y : Str} {py spos : Pos}
    (hc : X.calm = true) (hN : X.N.Nodup) (hy : X.N[i]? = some y) (hyl : X.env.scope.names.lookup y = some .local) (hsw : swapsWith (.ListComp elt [⟨tg, it, [], 0⟩] scope pos) (some (.Name y py)) spos.line X.env = pure true)
    (ok : BlkOk X.N X.env.scope scope own) (hi : WI X c Γ k m1 tg it (Wp P xs)) (ct : CT c Γ (own.map (·.2)) m1 g Γe) (hg : ∀ s H C cl fp, PG (Bk X scope s H C cl fp) tg g)
    (he : ∀ x s H C cl fp, WX (Bk X scope s H C cl fp) c (Γe x) m elt (Wp (Pe x) (f x))) (nm : m ≠ .any := by decide) (hs : ∀ x, foldedSetIterable it X.env x = pure x := by intro _; rfl) :
    AS X i (.Assign [.Name y py] (.ListComp elt [⟨tg, it, [], 0⟩] scope pos) spos) (tN c Γ m (Wp (P ∧ ∀ x ∈ xs, Pe x) (xs.map f))) :=
  (as_lcP hc hN hy hyl hsw ok hi ct hg (fun x s H C cl fp => wts_nil) he nm hs).imp fun σ H Q => tN_imp fun Q q => ⟨⟨q.1.1, fun x hx => ⟨trivial, fun _ => q.1.2 x hx⟩⟩, by
    rw [List.filter_eq_self.mpr (fun _ _ => rfl)]
    exact q.2⟩
theorem as_lcPf {elt it : Expr} {ifs : List Expr} {scope : Scope} {own : List (Str × Nat)} {g : TG} {P : Prop} {xs : List α} {Pt : α → Prop} {bt : α → Bool} {Γe : α → List LD} {i : Nat} {y : Str} {py spos : Pos}
    (hc : X.calm = true) (hN : X.N.Nodup) (hy : X.N[i]? = some y) (hyl : X.env.scope.names.lookup y = some .local) (hsw : swapsWith (.ListComp elt [⟨tg, it, ifs, 0⟩] scope pos) (some (.Name y py)) spos.line X.env = pure true)
    (ok : BlkOk X.N X.env.scope scope own) (hi : WI X c Γ k m1 tg it (Wp P xs)) (ct : CT c Γ (own.map (·.2)) m1 g Γe) (hg : ∀ s H C cl fp, PG (Bk X scope s H C cl fp) tg g)
    (ht : ∀ x s H C cl fp, WTs (Bk X scope s H C cl fp) c (Γe x) ifs (Wp (Pt x) (bt x))) (he : ∀ x s H C cl fp, WX (Bk X scope s H C cl fp) c (Γe x) m elt (Wp True x)) (nm : m ≠ .any := by decide) (hs : ∀ x, foldedSetIterable it X.env x = pure x := by intro _; rfl) :
    AS X i (.Assign [.Name y py] (.ListComp elt [⟨tg, it, ifs, 0⟩] scope pos) spos) (tN c Γ m (Wp (P ∧ ∀ x ∈ xs, Pt x) (xs.filter bt))) :=
  (as_lcP (f := fun x => x) (Pe := fun _ => True) hc hN hy hyl hsw ok hi ct hg ht he nm hs).imp fun σ H Q => tN_imp fun Q q => ⟨⟨q.1.1, fun x hx => ⟨q.1.2 x hx, fun _ => trivial⟩⟩, by
    rw [List.map_id']
    exact q.2⟩
theorem as_lc2 {elt it it1 tg1 : Expr} {ifs1 : List Expr} {scope : Scope} {own : List (Str × Nat)} {vs1 : List Nat} {g g1 : TG} {W : (List α → Prop) → Prop} {Wi : α → (List β → Prop) → Prop} {Wt : α → β → (Bool → Prop) → Prop} {We : α → β → (γ → Prop) → Prop} {Γe : α → List LD} {Γf : α → β → List LD} {i : Nat} {y : Str} {py spos : Pos}
    (hc : X.calm = true) (hN : X.N.Nodup) (hy : X.N[i]? = some y) (hyl : X.env.scope.names.lookup y = some .local) (hsw : swapsWith (.ListComp elt [⟨tg, it, [], 0⟩, ⟨tg1, it1, ifs1, 0⟩] scope pos) (some (.Name y py)) spos.line X.env = pure true)
    (ok : BlkOk X.N X.env.scope scope own) (hv : ∀ i ∈ vs1, i ∈ own.map (·.2)) (hi : WI X c Γ k m1 tg it W) (ct : CT c Γ (own.map (·.2)) m1 g Γe) (hg : ∀ s H C cl fp, PG (Bk X scope s H C cl fp) tg g)
    (hi1 : ∀ x s H C cl fp, WI (Bk X scope s H C cl fp) c (Γe x) false m2 tg1 it1 (Wi x)) (ct1 : ∀ x, CT c (Γe x) vs1 m2 g1 (Γf x)) (hg1 : ∀ s H C cl fp, PG (Bk X scope s H C cl fp) tg1 g1)
    (ht1 : ∀ x y s H C cl fp, WTs (Bk X scope s H C cl fp) c (Γf x y) ifs1 (Wt x y)) (he : ∀ x y s H C cl fp, WX (Bk X scope s H C cl fp) c (Γf x y) m elt (We x y)) (nm : m ≠ .any := by decide) (nm1 : m1 ≠ .any := by decide) (nm2 : m2 ≠ .any := by decide)
    (hs : ∀ x, foldedSetIterable it X.env x = pure x := by intro _; rfl) (hs1 : ∀ env x, foldedSetIterable it1 env x = pure x := by intro _ _; rfl) :
    AS X i (.Assign [.Name y py] (.ListComp elt [⟨tg, it, [], 0⟩, ⟨tg1, it1, ifs1, 0⟩] scope pos) spos) (tN c Γ m (fun Q => W fun xs => lc2W Wi Wt We xs [] Q)) ∧ Mono (fun Q => W fun xs => lc2W Wi Wt We xs [] Q) := by
  have mi : ∀ x, Mono (Wi x) := fun x => (hi1 x {} (fun _ => none) 0 [] []).mo
  have mt : ∀ x y, Mono (Wt x y) := fun x y => (ht1 x y {} (fun _ => none) 0 [] []).mo
  have me : ∀ x y, Mono (We x y) := fun x y => (he x y {} (fun _ => none) 0 [] []).mo
  exact ⟨⟨_, ps_setLc2 hc hN hy hyl hsw hi.run ok hv hg (fun s H C cl fp => pts_nil) (fun s H C cl fp => PI.ex fun x => (hi1 x s H C cl fp).run) hg1 (fun s H C cl fp => PTs.ex fun (z : α × β) => (ht1 z.1 z.2 s H C cl fp).run) (fun s H C cl fp => PE.ex fun (z : α × β) => (he z.1 z.2 s H C cl fp).run) hs hs1,
    fun σ H Q h => lc2_ok hi.mo mi mt me ct ct1 nm nm1 nm2 h⟩, fun _ _ k w => hi.mo _ _ (fun xs w => lc2W_mono mi mt me xs [] _ _ k w) w⟩
theorem as_lc2P0 {elt it it1 tg1 : Expr} {scope : Scope} {own : List (Str × Nat)} {vs1 : List Nat} {g g1 : TG} {P : Prop} {xs : List α} {Pi : α → Prop} {ys : α → List β} {Pe : α → β → Prop} {f : α → β → γ} {Γe : α → List LD} {Γf : α → β → List LD} {i : Nat} {y : Str} {py spos : Pos}
    (hc : X.calm = true) (hN : X.N.Nodup) (hy : X.N[i]? = some y) (hyl : X.env.scope.names.lookup y = some .local) (hsw : swapsWith (.ListComp elt [⟨tg, it, [], 0⟩, ⟨tg1, it1, [], 0⟩] scope pos) (some (.Name y py)) spos.line X.env = pure true)
    (ok : BlkOk X.N X.env.scope scope own) (hv : ∀ i ∈ vs1, i ∈ own.map (·.2)) (hi : WI X c Γ k m1 tg it (Wp P xs)) (ct : CT c Γ (own.map (·.2)) m1 g Γe) (hg : ∀ s H C cl fp, PG (Bk X scope s H C cl fp) tg g)
    (hi1 : ∀ x s H C cl fp, WI (Bk X scope s H C cl fp) c (Γe x) false m2 tg1 it1 (Wp (Pi x) (ys x))) (ct1 : ∀ x, CT c (Γe x) vs1 m2 g1 (Γf x)) (hg1 : ∀ s H C cl fp, PG (Bk X scope s H C cl fp) tg1 g1)
    (he : ∀ x y s H C cl fp, WX (Bk X scope s H C cl fp) c (Γf x y) m elt (Wp (Pe x y) (f x y))) (nm : m ≠ .any := by decide) (nm1 : m1 ≠ .any := by decide) (nm2 : m2 ≠ .any := by decide)
    (hs : ∀ x, foldedSetIterable it X.env x = pure x := by intro _; rfl) (hs1 : ∀ env x, foldedSetIterable it1 env x = pure x := by intro _ _; rfl) :
    AS X i (.Assign [.Name y py] (.ListComp elt [⟨tg, it, [], 0⟩, ⟨tg1, it1, [], 0⟩] scope pos) spos) (tN c Γ m (Wp (P ∧ (∀ x ∈ xs, Pi x ∧ ∀ y ∈ ys x, Pe x y) ∧ (xs.flatMap fun x => (ys x).map (f x)).length ≤ sizeLine) (xs.flatMap fun x => (ys x).map (f x)))) :=
  (as_lc2 hc hN hy hyl hsw ok hv hi ct hg hi1 ct1 hg1 (fun x y s H C cl fp => wts_nil) he nm nm1 nm2 hs hs1).1.imp fun σ H Q => tN_imp fun Q q => by
    have e : ∀ l : List β, l.filter (fun _ => true) = l := fun l => List.filter_eq_self.mpr (fun _ _ => rfl)
    refine ⟨q.1.1, lc2W_pure xs [] Q (fun x hx => ⟨(q.1.2.1 x hx).1, fun y hy => ⟨trivial, fun _ => (q.1.2.1 x hx).2 y hy⟩⟩) ?_ ?_⟩
    · simpa only [e, List.nil_append] using q.1.2.2
    · simpa only [e, List.nil_append] using q.2
/-- a new list as a value in a slot -/
theorem AS.d {i : Nat} {st : Stmt} {W : (List α → Prop) → Prop} (h : AS X i st (tN c Γ m W)) (mo : Mono W) : AS X i st (tW c Γ m W) := h.imp fun σ H Q q => tN_tW mo q
/-! ### return, if -/
theorem bx_ret {G : ς → List LD} {W : (ρ → Prop) → Prop} (he : WX X c Γ rm e W) : BX X c rm G Γ [.Return (some e) pos] (fun _ R => W R) :=
  ⟨fun N N' R R' kn kr w => he.mo _ _ kr w, PSs.mono (pss_one (ps_ret he.run)) fun D σ H ⟨Z, S, R, w⟩ => ⟨Z, S, R, he.mo _ _ (fun r q v H' ev R' d => q v H' S (.of_fa ev) R'.bare d) w⟩⟩
theorem bx_if {G : ς → List LD} {G1 : ς1 → List LD} {a b rest : List Stmt} {Wc : (Bool → Prop) → Prop} {Wa Wb : (ς1 → Prop) → (ρ → Prop) → Prop} {Wr : ς1 → (ς → Prop) → (ρ → Prop) → Prop} (hc : WT X c Γ e Wc) (ha : BX X c rm G1 Γ a Wa) (hb : BX X c rm G1 Γ b Wb) (hr : ∀ s, BX X c rm G (G1 s) rest (Wr s)) :
    BX X c rm G Γ (.If e a b pos :: rest) (fun N R => Wc fun t => if t = true then Wa (fun s => Wr s N R) R else Wb (fun s => Wr s N R) R) :=
  ⟨fun N N' R R' kn kr w => hc.mo _ _ (fun t w => by
    cases t with
    | true => exact ha.mo _ _ _ _ (fun s w => (hr s).mo _ _ _ _ kn kr w) kr w
    | false => exact hb.mo _ _ _ _ (fun s w => (hr s).mo _ _ _ _ kn kr w) kr w) w,
    PSs.mono (pss_cons (ps_if hc.run ha.run hb.run) (PSs.ex fun s => (hr s).run)) fun D σ H ⟨Z, S, R, w⟩ => ⟨Z, S, R, hc.mo _ _ (fun t w H1 ev1 R1 => by
      cases t with
      | true =>
        rw [if_pos rfl] at w
        exact iteT (tB_at ha.mo (.of_fa ev1) R1 (ha.mo _ _ _ _ (fun s w σ' H' S' ev' R' => ⟨s, tB_at (hr s).mo ev' R' w⟩) (fun r q => q) w))
      | false =>
        rw [if_neg Bool.false_ne_true] at w
        exact iteF (tB_at hb.mo (.of_fa ev1) R1 (hb.mo _ _ _ _ (fun s w σ' H' S' ev' R' => ⟨s, tB_at (hr s).mo ev' R' w⟩) (fun r q => q) w))) w⟩⟩
/-- the last statement: both ways return -/
theorem bx_ifE {G : ς → List LD} {a b : List Stmt} {Wc : (Bool → Prop) → Prop} {Wa Wb : (ς → Prop) → (ρ → Prop) → Prop} (hc : WT X c Γ e Wc) (ha : BX X c rm G Γ a Wa) (hb : BX X c rm G Γ b Wb) :
    BX X c rm G Γ [.If e a b pos] (fun N R => Wc fun t => if t = true then Wa N R else Wb N R) :=
  ⟨fun N N' R R' kn kr w => hc.mo _ _ (fun t w => by
    cases t with
    | true => exact ha.mo _ _ _ _ kn kr w
    | false => exact hb.mo _ _ _ _ kn kr w) w,
    PSs.mono (pss_one (ps_if hc.run ha.run hb.run)) fun D σ H ⟨Z, S, R, w⟩ => ⟨Z, S, R, hc.mo _ _ (fun t w H1 ev1 R1 => by
      cases t with
      | true =>
        rw [if_pos rfl] at w
        exact iteT (tB_at ha.mo (.of_fa ev1) R1 w)
      | false =>
        rw [if_neg Bool.false_ne_true] at w
        exact iteF (tB_at hb.mo (.of_fa ev1) R1 w)) w⟩⟩
/-! ### for -/
structure FT (c : Cf) (Γ : List LD) (m : Rk) (g : TG) (Γe : α → List LD) : Prop where
  run : ∀ (Z : Rgn) (S : Nat → Rgn) (H : Hp) (σ : L2.St) (v : V) (a : α) (Q : L2.St → Hp → Prop), Rep c Z S H σ Γ → DA (Rg c (Mo c Z S) m) H v (enc a) → (∀ σ2, Rep c Z S H σ2 (Γe a) → Q σ2 H) → g v σ H Q
theorem ft_name (i : Nat) (nm : m ≠ .any := by decide) : FT c Γ m (gName i) (fun a : α => Γ.set i (.d m (enc a))) := ⟨fun Z S H σ v a Q R d q => q _ (R.set nm d)⟩
theorem ft_pair {K : PySem.W.Frag} (i j : Nat) (nm : m ≠ .any := by decide) : FT c Γ m (gTup K 2 (gCons (gName i) (gCons (gName j) gNil))) (fun a : α × β => (Γ.set i (.d m (enc a.1))).set j (.d m (enc a.2))) :=
  ⟨fun Z S H σ v a Q R d q => by
    cases (d : DA _ H v (.tuple [enc a.1, enc a.2])) with
    | @tup t vs _ r z hs =>
      cases hs with
      | @cons v1 _ _ _ h1 hs =>
        cases hs with
        | @cons v2 _ _ _ h2 hs =>
          cases hs
          exact ⟨t, _, rfl, SqT.of r, rfl, v1, _, rfl, v2, _, rfl, rfl, q _ ((R.set nm h1).set nm h2)⟩⟩
theorem ft_t3 {K : PySem.W.Frag} (i j k : Nat) (nm : m ≠ .any := by decide) : FT c Γ m (gTup K 3 (gCons (gName i) (gCons (gName j) (gCons (gName k) gNil)))) (fun a : T3 α β γ => ((Γ.set i (.d m (enc a.a))).set j (.d m (enc a.b))).set k (.d m (enc a.c))) :=
  ⟨fun Z S H σ v a Q R d q => by
    cases (d : DA _ H v (.tuple [enc a.a, enc a.b, enc a.c])) with
    | @tup t vs _ r z hs =>
      cases hs with
      | @cons v1 _ _ _ h1 hs =>
        cases hs with
        | @cons v2 _ _ _ h2 hs =>
          cases hs with
          | @cons v3 _ _ _ h3 hs =>
            cases hs
            exact ⟨t, _, rfl, SqT.of r, rfl, v1, _, rfl, v2, _, rfl, v3, _, rfl, rfl, q _ (((R.set nm h1).set nm h2).set nm h3)⟩⟩
theorem ft_t4 {K : PySem.W.Frag} (i j k l : Nat) (nm : m ≠ .any := by decide) : FT c Γ m (gTup K 4 (gCons (gName i) (gCons (gName j) (gCons (gName k) (gCons (gName l) gNil))))) (fun a : T4 α β γ δ => (((Γ.set i (.d m (enc a.a))).set j (.d m (enc a.b))).set k (.d m (enc a.c))).set l (.d m (enc a.d))) :=
  ⟨fun Z S H σ v a Q R d q => by
    cases (d : DA _ H v (.tuple [enc a.a, enc a.b, enc a.c, enc a.d])) with
    | @tup t vs _ r z hs =>
      cases hs with
      | @cons v1 _ _ _ h1 hs =>
        cases hs with
        | @cons v2 _ _ _ h2 hs =>
          cases hs with
          | @cons v3 _ _ _ h3 hs =>
            cases hs with
            | @cons v4 _ _ _ h4 hs =>
              cases hs
              exact ⟨t, _, rfl, SqT.of r, rfl, v1, _, rfl, v2, _, rfl, v3, _, rfl, v4, _, rfl, rfl, q _ ((((R.set nm h1).set nm h2).set nm h3).set nm h4)⟩⟩
/-- target = value -/
theorem bx_asgT {G : ς → List LD} {g : TG} {Γe : α → List LD} {rest : List Stmt} {W : (α → Prop) → Prop} {Wr : α → (ς → Prop) → (ρ → Prop) → Prop} (he : WX X c Γ m e W) (ft : FT c Γ m g Γe) (hg : PG X tg g) (hr : ∀ a, BX X c rm G (Γe a) rest (Wr a))
    (hs : swapsWithSole [tg] e pos.line X.env = pure false := by rfl) (hw : swappedStores [tg] e X.env = pure none := by rfl) (h1 : (assignEach [tg] X.env).map (·.2) = [assign tg X.env] := by rfl) :
    BX X c rm G Γ (.Assign [tg] e pos :: rest) (fun N R => W fun a => Wr a N R) :=
  ⟨fun N N' R R' kn kr w => he.mo _ _ (fun a w => (hr a).mo N N' R R' kn kr w) w,
    PSs.mono (pss_cons (ps_asg he.run hg hs hw h1) (PSs.ex fun a => (hr a).run)) fun D σ H ⟨Z, S, R, w⟩ => ⟨Z, S, R, he.mo _ _ (fun a w v H' ev R' d => ft.run Z S H' σ v a _ R' d fun σ2 R2 => ⟨a, tB_at (hr a).mo (.of_fa ev) R2 w⟩) w⟩⟩
def forW (Wb : α → ς → (ς → Prop) → (ρ → Prop) → Prop) : List α → ς → (ς → Prop) → (ρ → Prop) → Prop
  | [], s, N, _ => N s
  | x :: xs, s, N, R => Wb x s (fun s' => forW Wb xs s' N R) R
theorem forW_mono {Wb : α → ς → (ς → Prop) → (ρ → Prop) → Prop} (h : ∀ x s, MonoB (Wb x s)) : ∀ (xs : List α) (s : ς), MonoB (forW Wb xs s)
  | [], s => fun _ _ _ _ kn _ q => kn _ q
  | x :: xs, s => fun N N' R R' kn kr w => h x s _ _ _ _ (fun s' w => forW_mono h xs s' _ _ _ _ kn kr w) kr w
theorem bx_for {G : ς → List LD} {G1 : ς1 → List LD} {it : Expr} {body rest : List Stmt} {g : TG} {Γe : ς1 → α → List LD} {Wi : (List α → Prop) → Prop} {Wb : α → ς1 → (ς1 → Prop) → (ρ → Prop) → Prop} {Wr : ς1 → (ς → Prop) → (ρ → Prop) → Prop} (s0 : ς1)
    (hi : WI X c Γ false m1 tg it Wi) (hg : PG X tg g) (h0 : wk Γ (G1 s0)) (ft : ∀ s, FT c (G1 s) m1 g (Γe s)) (hb : ∀ x s, BX X c rm G1 (Γe s x) body (Wb x s)) (hr : ∀ s, BX X c rm G (G1 s) rest (Wr s)) (hp : PassesOwn (model X.prog X.w) X.A X.env X.xe) (hc : X.calm = true := by rfl)
    (hs : ∀ x, foldedSetIterable it X.env x = pure x := by intro _; rfl) : BX X c rm G Γ (.For tg it body [] pos :: rest) (fun N R => Wi fun xs => forW Wb xs s0 (fun s => Wr s N R) R) := by
  have mb : ∀ x s, MonoB (Wb x s) := fun x s => (hb x s).mo
  refine ⟨fun N N' R R' kn kr w => hi.mo _ _ (fun xs w => forW_mono mb xs s0 _ _ _ _ (fun s w => (hr s).mo _ _ _ _ kn kr w) kr w) w, ?_⟩
  refine PSs.mono (pss_cons (ps_for hp hc hi.run hg (PSs.ex fun (z : α × ς1) => (hb z.1 z.2).run) hs) (PSs.ex fun s => (hr s).run)) fun D σ H ⟨Z, S, R, w⟩ => ⟨Z, S, R, hi.mo _ _ (fun xs w J H1 ev1 R1 hz yl => ?_) w⟩
  obtain ⟨S1, hs1, R1'⟩ := R1.wk h0
  refine ⟨fun i n σ2 H2 => n = xs.length - i ∧ i ≤ xs.length ∧ ∃ (s : ς1) (S2 : Nat → Rgn), EvS c Z S H1 S2 H2 ∧ Rep c Z S2 H2 σ2 (G1 s) ∧ forW Wb (xs.drop i) s (fun s => Wr s (fun s => ∀ σ' H' S', EvS c Z S H S' H' → Rep c Z S' H' σ' (G s) → D.nx σ' H') (fun r => ∀ v H' S', EvS c Z S H S' H' → Rep c Z S' H' [] [] → DA (Rg c (Mo c Z S') rm) H' v (enc r) → D.rt v H'))
    (fun r => ∀ v H' S', EvS c Z S H S' H' → Rep c Z S' H' [] [] → DA (Rg c (Mo c Z S') rm) H' v (enc r) → D.rt v H'), ⟨xs.length, by simp, Nat.zero_le _, s0, S1, .of_sub hs1, R1', by simpa using w⟩, ?_⟩
  rintro i n σ2 H2 ⟨rfl, hi', s, S2, ev2, R2, w⟩
  obtain ⟨y1, y2⟩ := yl H2 (show Evo (Mk' c (Mo c Z S) false) H1 H2 from ev2.1)
  have ev02 : EvS c Z S H S2 H2 := (EvS.of_fa ev1).trans ev2
  by_cases hlt : i < xs.length
  · right
    have ex : (xs.map enc)[i]? = some (enc xs[i]) := by rw [List.getElem?_map, List.getElem?_eq_getElem hlt]; rfl
    obtain ⟨go, yy⟩ := y1 i _ ex
    rw [List.drop_eq_getElem_cons hlt] at w
    refine ⟨go, fun σ3 H3 => ∃ (s : ς1) (S2 : Nat → Rgn), EvS c Z S H1 S2 H3 ∧ Rep c Z S2 H3 σ3 (G1 s) ∧ forW Wb (xs.drop (i + 1)) s (fun s => Wr s (fun s => ∀ σ' H' S', EvS c Z S H S' H' → Rep c Z S' H' σ' (G s) → D.nx σ' H') (fun r => ∀ v H' S', EvS c Z S H S' H' → Rep c Z S' H' [] [] → DA (Rg c (Mo c Z S') rm) H' v (enc r) → D.rt v H'))
      (fun r => ∀ v H' S', EvS c Z S H S' H' → Rep c Z S' H' [] [] → DA (Rg c (Mo c Z S') rm) H' v (enc r) → D.rt v H'), fun σ' H' p => ⟨_, by omega, rfl, hlt, p⟩, fun v H3 y => ?_⟩
    obtain ⟨sm3, d3⟩ := yy v H3 y
    have R3 := R2.same sm3
    have ev3 : EvS c Z S H1 S2 H3 := ⟨ev2.1.trans (.of_same sm3) fun a z => .inl z, ev2.2⟩
    have d3' : DA (Rg c (Mo c Z S2) m1) H3 v (enc xs[i]) := DA.map (fun a us ha r => ⟨by
      obtain ⟨ha, o, ho⟩ := ha
      have hm : Mo c Z S2 a → Mo c Z S a := fun z => (ev2.2 a z).elim id fun n => by rw [ho] at n; cases n
      cases m1 with
      | any => exact ha
      | pl => exact fun z => ha (hm z)
      | fr => exact ⟨fun z => ha.1 (hm z), ha.2⟩, r⟩) (fun _ _ r => r) _ d3
    refine (ft s).run Z S2 H3 σ2 v xs[i] _ R3 d3' fun σ4 R4 => ⟨(xs[i], s), ?_⟩
    refine ⟨Z, S2, R4, (mb xs[i] s) _ _ _ _ (fun s' w σ' H' S' ev' R' => ⟨s', S', ev3.trans ev', R', w⟩) (fun r q v H' S' ev' R' d => q v H' S' (((EvS.of_fa ev1).trans ev3).trans ev') R' d) w⟩
  · left
    have e : i = xs.length := by omega
    subst e
    rw [List.drop_length] at w
    exact ⟨by simpa using y2, s, tB_at (hr s).mo ev02 R2 w⟩
/-! ### while -/
def whileW (Wc : ς → (Bool → Prop) → Prop) (Wb : ς → (ς → Prop) → (ρ → Prop) → Prop) (s0 : ς) (N : ς → Prop) (R : ρ → Prop) : Prop :=
  ∃ I : Nat → ς → Prop, (∃ n, I n s0) ∧ ∀ n s, I n s → Wc s fun t => if t = true then Wb s (fun s' => ∃ n', n' < n ∧ I n' s') R else N s
theorem bx_while {G : ς → List LD} {G1 : ς1 → List LD} {body rest : List Stmt} {Wc : ς1 → (Bool → Prop) → Prop} {Wb : ς1 → (ς1 → Prop) → (ρ → Prop) → Prop} {Wr : ς1 → (ς → Prop) → (ρ → Prop) → Prop} (s0 : ς1)
    (h0 : wk Γ (G1 s0)) (hc : ∀ s, WT X c (G1 s) e (Wc s)) (hb : ∀ s, BX X c rm G1 (G1 s) body (Wb s)) (hr : ∀ s, BX X c rm G (G1 s) rest (Wr s)) (hp : PassesOwn (model X.prog X.w) X.A X.env X.xe) :
    BX X c rm G Γ (.While e body [] pos :: rest) (fun N R => whileW Wc Wb s0 (fun s => Wr s N R) R) := by
  refine ⟨fun N N' R R' kn kr ⟨I, h1, h2⟩ => ⟨I, h1, fun n s i => (hc s).mo _ _ (fun t w => by
    cases t with
    | true => exact (hb s).mo _ _ _ _ (fun s' q => q) kr w
    | false => exact (hr s).mo _ _ _ _ kn kr w) (h2 n s i)⟩, ?_⟩
  refine PSs.mono (pss_cons (ps_while hp (show PT X e (fun σ H Q => ∃ s, tWT c (G1 s) (Wc s) σ H Q) from ⟨fun pins s σ H Q I ⟨i, q⟩ => (hc i).run.run pins s σ H Q I q⟩) (PSs.ex fun s => (hb s).run)) (PSs.ex fun s => (hr s).run)) fun D σ H ⟨Z, S, R, I, ⟨n0, i0⟩, turn⟩ => ?_
  obtain ⟨S1, hs1, R1⟩ := R.wk h0
  refine ⟨fun n σ2 H2 => ∃ (s : ς1) (S2 : Nat → Rgn), EvS c Z S H S2 H2 ∧ Rep c Z S2 H2 σ2 (G1 s) ∧ I n s, ⟨n0, s0, S1, .of_sub hs1, R1, i0⟩, ?_⟩
  rintro n σ2 H2 ⟨s, S2, ev2, R2, i⟩
  refine ⟨s, Z, S2, R2, (hc s).mo _ _ (fun t w H3 ev3 R3 => ?_) (turn n s i)⟩
  have ev03 : EvS c Z S H S2 H3 := ev2.trans (.of_fa ev3)
  cases t with
  | true =>
    rw [if_pos rfl] at w
    refine iteT ⟨fun σ4 H4 => ∃ (s : ς1) (S2 : Nat → Rgn), EvS c Z S H S2 H4 ∧ Rep c Z S2 H4 σ4 (G1 s) ∧ ∃ n', n' < n ∧ I n' s, fun σ' H' ⟨s, S2, e, r, n', hn, i⟩ => ⟨n', hn, s, S2, e, r, i⟩, s, ?_⟩
    exact ⟨Z, S2, R3, (hb s).mo _ _ _ _ (fun s' w σ' H' S' ev' R' => ⟨s', S', ev03.trans ev', R', w⟩) (fun r q v H' S' ev' R' d => q v H' S' (ev03.trans ev') R' d) w⟩
  | false =>
    rw [if_neg Bool.false_ne_true] at w
    exact iteF ⟨s, tB_at (hr s).mo ev03 R3 w⟩
end
end DL

namespace DL
open PySem PySem.Spec PyProof.Rows L2
open Enc (enc)
section
variable {α β γ δ ρ ς ς1 : Type} [Enc α] [Enc β] [Enc γ] [Enc δ] [Enc ρ]
variable {X : Cx} {c : Cf} {Γ Γ' : List LD} {m m' m1 m2 rm : Rk} {e e1 e2 e3 e4 tg : Expr} {es : List Expr} {pos p p2 px apos cpos : Pos} {k k1 : Bool} {x y : Str}
/-- what an own list's slot says -/
theorem Rep.ownA {Z : Rgn} {S : Nat → Rgn} {H : Hp} {σ : L2.St} {i : Nat} {xs : List α} (R : Rep c Z S H σ Γ) (q : Γ[i]? = some (.own m (xs.map enc))) :
    ∃ l vs, σ[i]? = some (some (.ref l)) ∧ H l = some (.lst vs) ∧ vs.length = xs.length ∧ vs.length ≤ sizeLine ∧ DAs (Rg c (Mo c Z S) m) H vs (xs.map enc) ∧ S i l ∧ m ≠ .any := by
  obtain ⟨nm, l, vs, e, s, f, h, z, d⟩ := R.slot i _ q
  exact ⟨l, vs, e, h, by rw [d.length, List.length_map], z, d, s, nm⟩
/-- x.append(e) -/
theorem bx_app {G : ς → List LD} {rest : List Stmt} {We : (α → Prop) → Prop} {Wr : α → (ς → Prop) → (ρ → Prop) → Prop} (i : Nat) {xs : List α} (he : WX X c Γ m e We) (hr : ∀ a, BX X c rm G (Γ.set i (.own m ((xs ++ [a]).map enc))) rest (Wr a)) (q : Γ[i]? = some (.own m (xs.map enc)) := by rfl)
    (hN : X.N[i]? = some x := by rfl) (hv : Vis X.env.scope x := by first | exact Or.inl rfl | exact Or.inr (Or.inl rfl) | exact Or.inr (Or.inr rfl)) (hd : (x == ("__debug__" : Str)) = false := by decide) (hcd : (x == ("__classdict__" : Str)) = false := by decide)
    (hbase : attributeBase (.Name x p) "append" X.env (eval (.Name x p) X.env) = eval (.Name x p) X.env := by rfl)
    (hfew : ((backTo cpos (starEach (e :: []) X.env)).all (fun x => !x.1) && (backToKw cpos (keywordEach [] X.env)).all (fun x => x.1.isSome) && decide ((e :: ([] : List Expr)).length + ([] : List Keyword).length + (if ([] : List Keyword).isEmpty then 0 else 1) < 30)) = true := by rfl)
    (hline : (apos.endLine == cpos.line) = true := by rfl) (hs : starEach (e :: []) X.env = (false, eval e X.env) :: starEach [] X.env := by rfl) (hsw : swapsWith (.Call (.Attribute (.Name x p) "append" apos) [e] [] cpos) none pos.line X.env = pure false := by rfl) :
    BX X c rm G Γ (.Expr (.Call (.Attribute (.Name x p) "append" apos) [e] [] cpos) pos :: rest) (fun N R => We fun a => xs.length < sizeLine ∧ Wr a N R) :=
  ⟨fun N N' R R' kn kr w => he.mo _ _ (fun a w => ⟨w.1, (hr a).mo _ _ _ _ kn kr w.2⟩) w,
    PSs.mono (pss_cons (ps_expr (pe_bm PySem.F.plainAttrs_list PySem.F.slot_list_append PySem.F.type_list_append mt_append (pe_var hN hv hd hcd) (pa_cons he.run pa_nil hs) hbase hfew hline hs rfl) hsw) (PSs.ex fun a => (hr a).run)) fun D σ H ⟨Z, S, R, w⟩ => by
      obtain ⟨l, vs, e1, h1, hl, hz, d1, s1, nm⟩ := R.ownA q
      refine ⟨_, e1, .inl ⟨rfl, _, SqL.of h1⟩, Z, S, R, he.mo _ _ (fun a w v H2 ev2 R2 d2 => ?_) w⟩
      obtain ⟨l', vs', e2, h2, hl2, hz2, d2', s2, _⟩ := R2.ownA q
      rw [e1] at e2
      cases e2
      have hz3 : (vs' ++ [v]).length ≤ sizeLine := by rw [List.length_append, List.length_singleton, hl2]; exact w.1
      obtain ⟨ev3, R3⟩ := R2.put (vs' := vs' ++ [v]) (xs' := (xs ++ [a]).map enc) q e1 h2 hz3 (by rw [List.map_append]; exact d2'.append (.cons d2 .nil))
      exact ⟨l, vs', v, rfl, rfl, h2, by rw [hl2]; exact w.1, a, tB_at (hr a).mo ((EvS.of_fa ev2).trans ev3) R3 w.2⟩⟩
/-! ### pop -/
def tO (c : Cf) (Γ : List LD) (m : Rk) (i : Nat) (W : (α × List α → Prop) → Prop) : TE := fun σ H Q => ∃ Z S, Rep c Z S H σ Γ ∧ W fun q => ∀ v H', EvS c Z S H S H' → Rep c Z S H' σ (Γ.set i (.own m (q.2.map enc))) → DA (Rg c (Mo c Z S) m) H' v (enc q.1) → Q v H'
structure OX (X : Cx) (c : Cf) (Γ : List LD) (m : Rk) (i : Nat) (e : Expr) (W : (α × List α → Prop) → Prop) : Prop where
  mo : Mono W
  run : PE X e (tO c Γ m i W)
theorem ox_pop [Inhabited α] (i : Nat) {xs : List α} (q : Γ[i]? = some (.own m (xs.map enc)) := by rfl)
    (hN : X.N[i]? = some x := by rfl) (hv : Vis X.env.scope x := by first | exact Or.inl rfl | exact Or.inr (Or.inl rfl) | exact Or.inr (Or.inr rfl)) (hd : (x == ("__debug__" : Str)) = false := by decide) (hcd : (x == ("__classdict__" : Str)) = false := by decide)
    (hbase : attributeBase (.Name x p) "pop" X.env (eval (.Name x p) X.env) = eval (.Name x p) X.env := by rfl) (hline : (apos.endLine == cpos.line) = true := by rfl) :
    OX X c Γ m i (.Call (.Attribute (.Name x p) "pop" apos) [] [] cpos) (fun Q => xs ≠ [] ∧ Q (xs.getLastD default, xs.dropLast)) :=
  ⟨fun _ _ k w => ⟨w.1, k _ w.2⟩, PE.mono (pe_bm0 PySem.F.plainAttrs_list PySem.F.slot_list_pop PySem.F.type_list_pop mt_pop (pe_var hN hv hd hcd) hbase hline) fun σ H Q ⟨Z, S, R, ne, w⟩ => by
    obtain ⟨l, vs, e1, h1, hl, hz, d1, s1, nm⟩ := R.ownA q
    have hp : xs.length - 1 < xs.length := by have := List.length_pos_iff.mpr ne; omega
    have hx : (xs.map enc)[vs.length - 1]? = some (enc (xs.getLastD default)) := by
      rw [hl, List.getElem?_map, List.getElem?_eq_getElem hp]
      congr 2
      rw [List.getLastD_eq_getLast?, List.getLast?_eq_getElem?, List.getElem?_eq_getElem hp]
      rfl
    obtain ⟨v, hv', dv⟩ := d1.get' hx
    obtain ⟨ev3, R3⟩ := R.put (vs' := vs.dropLast) (xs' := xs.dropLast.map enc) q e1 h1 (by rw [List.length_dropLast]; omega) (by rw [List.map_dropLast]; exact d1.dropLast)
    exact ⟨_, e1, .inl ⟨rfl, _, SqL.of h1⟩, l, vs, v, rfl, rfl, h1, hv', w v _ ev3 R3 (dv.evo (evo_put h1) (fun a ha z => rg_nm nm a ha (.inr (.inl ⟨i, by rw [z]; exact s1⟩))) fun _ _ _ z => z)⟩⟩
theorem eraseIdx_mapE : ∀ (xs : List α) (j : Nat), (xs.map enc).eraseIdx j = (xs.eraseIdx j).map enc
  | [], _ => by simp
  | x :: xs, 0 => by simp
  | x :: xs, j + 1 => by simp [eraseIdx_mapE xs j]
theorem ox_popAt [Inhabited α] (i : Nat) {xs : List α} {We : (Int → Prop) → Prop} (he : WX X c Γ m' e We) (q : Γ[i]? = some (.own m (xs.map enc)) := by rfl)
    (hN : X.N[i]? = some x := by rfl) (hv : Vis X.env.scope x := by first | exact Or.inl rfl | exact Or.inr (Or.inl rfl) | exact Or.inr (Or.inr rfl)) (hd : (x == ("__debug__" : Str)) = false := by decide) (hcd : (x == ("__classdict__" : Str)) = false := by decide)
    (hbase : attributeBase (.Name x p) "pop" X.env (eval (.Name x p) X.env) = eval (.Name x p) X.env := by rfl)
    (hfew : ((backTo cpos (starEach (e :: []) X.env)).all (fun x => !x.1) && (backToKw cpos (keywordEach [] X.env)).all (fun x => x.1.isSome) && decide ((e :: ([] : List Expr)).length + ([] : List Keyword).length + (if ([] : List Keyword).isEmpty then 0 else 1) < 30)) = true := by rfl)
    (hline : (apos.endLine == cpos.line) = true := by rfl) (hs : starEach (e :: []) X.env = (false, eval e X.env) :: starEach [] X.env := by rfl) :
    OX X c Γ m i (.Call (.Attribute (.Name x p) "pop" apos) [e] [] cpos) (fun Q => We fun k => cIx xs k ∧ Q (gIx xs k, xs.eraseIdx k.toNat)) :=
  ⟨fun _ _ k w => he.mo _ _ (fun a w => ⟨w.1, k _ w.2⟩) w, PE.mono (pe_bm PySem.F.plainAttrs_list PySem.F.slot_list_pop PySem.F.type_list_pop mt_popAt (pe_var hN hv hd hcd) (pa_cons he.run pa_nil hs) hbase hfew hline hs rfl) fun σ H Q ⟨Z, S, R, w⟩ => by
    obtain ⟨l, vs, e1, h1, hl, hz, d1, s1, nm⟩ := R.ownA q
    refine ⟨_, e1, .inl ⟨rfl, _, SqL.of h1⟩, Z, S, R, he.mo _ _ (fun k w v H2 ev2 R2 d2 => ?_) w⟩
    cases (d2 : DA _ H2 v (.int k))
    obtain ⟨l', vs', e2, h2, hl2, hz2, d2', s2, _⟩ := R2.ownA q
    rw [e1] at e2
    cases e2
    obtain ⟨h3, h4⟩ := w.1
    have hk : k.toNat < xs.length := by omega
    have hx : (xs.map enc)[k.toNat]? = some (enc (gIx xs k)) := by
      rw [List.getElem?_map, List.getElem?_eq_getElem hk]
      show some (enc xs[k.toNat]) = some (enc (xs.getD k.toNat default))
      rw [List.getD_eq_getElem?_getD, List.getElem?_eq_getElem hk]
      rfl
    obtain ⟨u, hu, du⟩ := d2'.get' hx
    obtain ⟨ev3, R3⟩ := R2.put (vs' := vs'.eraseIdx k.toNat) (xs' := (xs.eraseIdx k.toNat).map enc) q e1 h2 (Nat.le_trans (len_erase vs' k.toNat) hz2) (by
      have := d2'.eraseIdx k.toNat
      rwa [show (xs.map enc).eraseIdx k.toNat = (xs.eraseIdx k.toNat).map enc from (eraseIdx_mapE xs k.toNat)] at this)
    have hsl := sizeLine_eq
    refine ⟨l, vs', k, k.toNat, u, rfl, rfl, h2, by omega, by omega, seqIndex_of h3 (by rw [hl2]; exact h4), hu, w.2 u _ ((EvS.of_fa ev2).trans ev3) R3 (du.evo (evo_put h2) (fun a ha z => rg_nm nm a ha (.inr (.inl ⟨i, by rw [z]; exact s2⟩))) fun _ _ _ z => z)⟩⟩
/-- x = y.pop(..) -/
theorem bx_pop {G : ς → List LD} {rest : List Stmt} {j i : Nat} {st : Stmt} {W : (α × List α → Prop) → Prop} {Wr : α × List α → (ς → Prop) → (ρ → Prop) → Prop} (h : AS X j st (tO c Γ m i W)) (mo : Mono W) (hr : ∀ q : α × List α, BX X c rm G ((Γ.set i (.own m (q.2.map enc))).set j (.d m (enc q.1))) rest (Wr q)) (nm : m ≠ .any := by decide) :
    BX X c rm G Γ (st :: rest) (fun N R => W fun q => Wr q N R) :=
  ⟨fun N N' R R' kn kr w => mo _ _ (fun a w => (hr a).mo N N' R R' kn kr w) w, by
    obtain ⟨te, h1, h2⟩ := h
    refine PSs.mono (pss_cons h1 (PSs.ex fun a => (hr a).run)) fun D σ H ⟨Z, S, R, w⟩ => ?_
    exact h2 σ H _ ⟨Z, S, R, mo _ _ (fun a w v H' ev R' d => ⟨a, tB_at (hr a).mo ev (R'.set nm d) w⟩) w⟩⟩
/-- y.pop(..) alone -/
theorem bx_popE {G : ς → List LD} {rest : List Stmt} {i : Nat} {W : (α × List α → Prop) → Prop} {Wr : α × List α → (ς → Prop) → (ρ → Prop) → Prop} (h : OX X c Γ m i e W) (hr : ∀ q : α × List α, BX X c rm G (Γ.set i (.own m (q.2.map enc))) rest (Wr q)) (hsw : swapsWith e none pos.line X.env = pure false := by rfl) :
    BX X c rm G Γ (.Expr e pos :: rest) (fun N R => W fun q => Wr q N R) :=
  ⟨fun N N' R R' kn kr w => h.mo _ _ (fun a w => (hr a).mo N N' R R' kn kr w) w,
    PSs.mono (pss_cons (ps_expr h.run hsw) (PSs.ex fun a => (hr a).run)) fun D σ H ⟨Z, S, R, w⟩ => ⟨Z, S, R, h.mo _ _ (fun a w v H' ev R' d => ⟨a, tB_at (hr a).mo ev R' w⟩) w⟩⟩
/-- x.append(y.pop(..)) -/
theorem bx_appPop {G : ς → List LD} {rest : List Stmt} {i : Nat} {W : (α × List α → Prop) → Prop} {Wr : α × List α → (ς → Prop) → (ρ → Prop) → Prop} (j : Nat) {ys : List α} (h : OX X c Γ m i e W) (hr : ∀ q : α × List α, BX X c rm G ((Γ.set i (.own m (q.2.map enc))).set j (.own m ((ys ++ [q.1]).map enc))) rest (Wr q))
    (hij : i ≠ j := by decide) (q : Γ[j]? = some (.own m (ys.map enc)) := by rfl)
    (hN : X.N[j]? = some x := by rfl) (hv : Vis X.env.scope x := by first | exact Or.inl rfl | exact Or.inr (Or.inl rfl) | exact Or.inr (Or.inr rfl)) (hd : (x == ("__debug__" : Str)) = false := by decide) (hcd : (x == ("__classdict__" : Str)) = false := by decide)
    (hbase : attributeBase (.Name x p) "append" X.env (eval (.Name x p) X.env) = eval (.Name x p) X.env := by rfl)
    (hfew : ((backTo cpos (starEach (e :: []) X.env)).all (fun x => !x.1) && (backToKw cpos (keywordEach [] X.env)).all (fun x => x.1.isSome) && decide ((e :: ([] : List Expr)).length + ([] : List Keyword).length + (if ([] : List Keyword).isEmpty then 0 else 1) < 30)) = true := by rfl)
    (hline : (apos.endLine == cpos.line) = true := by rfl) (hs : starEach (e :: []) X.env = (false, eval e X.env) :: starEach [] X.env := by rfl) (hsw : swapsWith (.Call (.Attribute (.Name x p) "append" apos) [e] [] cpos) none pos.line X.env = pure false := by rfl) :
    BX X c rm G Γ (.Expr (.Call (.Attribute (.Name x p) "append" apos) [e] [] cpos) pos :: rest) (fun N R => W fun q => ys.length < sizeLine ∧ Wr q N R) :=
  ⟨fun N N' R R' kn kr w => h.mo _ _ (fun a w => ⟨w.1, (hr a).mo _ _ _ _ kn kr w.2⟩) w,
    PSs.mono (pss_cons (ps_expr (pe_bm PySem.F.plainAttrs_list PySem.F.slot_list_append PySem.F.type_list_append mt_append (pe_var hN hv hd hcd) (pa_cons h.run pa_nil hs) hbase hfew hline hs rfl) hsw) (PSs.ex fun a => (hr a).run)) fun D σ H ⟨Z, S, R, w⟩ => by
      obtain ⟨l, vs, e1, h1, hl, hz, d1, s1, nm⟩ := R.ownA q
      refine ⟨_, e1, .inl ⟨rfl, _, SqL.of h1⟩, Z, S, R, h.mo _ _ (fun a w v H2 ev2 R2 d2 => ?_) w⟩
      have q2 : (Γ.set i (.own m (a.2.map enc)))[j]? = some (.own m (ys.map enc)) := by rw [List.getElem?_set_ne hij]; exact q
      obtain ⟨l', vs', e2, h2, hl2, hz2, d2', s2, _⟩ := R2.ownA q2
      rw [e1] at e2
      cases e2
      have hz3 : (vs' ++ [v]).length ≤ sizeLine := by rw [List.length_append, List.length_singleton, hl2]; exact w.1
      obtain ⟨ev3, R3⟩ := R2.put (vs' := vs' ++ [v]) (xs' := (ys ++ [a.1]).map enc) q2 e1 h2 hz3 (by rw [List.map_append]; exact d2'.append (.cons d2 .nil))
      exact ⟨l, vs', v, rfl, rfl, h2, by rw [hl2]; exact w.1, a, tB_at (hr a).mo (ev2.trans ev3) R3 w.2⟩⟩
/-! ### x[i] = e, x[i] += e, x += e -/
theorem bx_sub {G : ς → List LD} {rest : List Stmt} {We : (α → Prop) → Prop} {Wi : (Int → Prop) → Prop} {Wr : α → Int → (ς → Prop) → (ρ → Prop) → Prop} (i : Nat) {xs : List α} (he : WX X c Γ m e We) (hi : WX X c Γ m' e1 Wi) (hr : ∀ a k, BX X c rm G (Γ.set i (.own m ((xs.set k.toNat a).map enc))) rest (Wr a k)) (q : Γ[i]? = some (.own m (xs.map enc)) := by rfl)
    (hN : X.N[i]? = some x := by rfl) (hv : Vis X.env.scope x := by first | exact Or.inl rfl | exact Or.inr (Or.inl rfl) | exact Or.inr (Or.inr rfl)) (hd : (x == ("__debug__" : Str)) = false := by decide) (hcd : (x == ("__classdict__" : Str)) = false := by decide)
    (ha : ∀ v, assign (.Subscript (.Name x p) e1 p2) X.env v = (do
      let ov ← holding [v] (eval (.Name x p) X.env)
      let iv ← holding [v, ov] (eval e1 X.env)
      standAt p2
      holding [v, ov, iv] (setItem ov iv v)
      release [v, ov, iv] []) := by intro _; rfl)
    (hs : swapsWithSole [.Subscript (.Name x p) e1 p2] e pos.line X.env = pure false := by rfl) (hw : swappedStores [.Subscript (.Name x p) e1 p2] e X.env = pure none := by rfl) (h1 : (assignEach [.Subscript (.Name x p) e1 p2] X.env).map (·.2) = [assign (.Subscript (.Name x p) e1 p2) X.env] := by rfl) :
    BX X c rm G Γ (.Assign [.Subscript (.Name x p) e1 p2] e pos :: rest) (fun N R => We fun a => Wi fun k => cIx xs k ∧ Wr a k N R) :=
  ⟨fun N N' R R' kn kr w => he.mo _ _ (fun a w => hi.mo _ _ (fun k w => ⟨w.1, (hr a k).mo _ _ _ _ kn kr w.2⟩) w) w,
    PSs.mono (pss_cons (ps_asg he.run (pg_sub (pe_var hN hv hd hcd) hi.run set_list ha) hs hw h1) (PSs.ex fun (z : α × Int) => (hr z.1 z.2).run)) fun D σ H ⟨Z, S, R, w⟩ => ⟨Z, S, R, he.mo _ _ (fun a w v H1 ev1 R1 d1 => by
      obtain ⟨l, vs, e1, h1, hl, hz, dd, s1, nm⟩ := R1.ownA q
      refine ⟨_, e1, Z, S, R1, hi.mo _ _ (fun k w u H2 ev2 R2 d2 => ?_) w⟩
      cases (d2 : DA _ H2 u (.int k))
      obtain ⟨l', vs', e2, h2, hl2, hz2, d2', s2, _⟩ := R2.ownA q
      rw [e1] at e2
      cases e2
      obtain ⟨h3, h4⟩ := w.1
      have dv := d1.evo ev2 (rg_nfa (fun a => mo_fa) m) fun _ _ _ z => z
      obtain ⟨ev3, R3⟩ := R2.put (vs' := vs'.set k.toNat v) (xs' := (xs.set k.toNat a).map enc) q e1 h2 (by rw [List.length_set]; exact hz2) (by rw [List.map_set]; exact DAs.set dv _ d2')
      refine ⟨l, vs', k, k.toNat, rfl, rfl, h2, ?_, (a, k), tB_at (hr a k).mo (((EvS.of_fa ev1).trans (.of_fa ev2)).trans ev3) R3 w.2⟩
      unfold ixN
      rw [if_pos h3, if_pos (by rw [hl2]; exact h4)]) w⟩⟩
theorem pget_list : PGet X (rIxL X.K) := by
  intro pins s σ H o i ov iv Q I ro ri h
  obtain ⟨p, xs, k, v, rfl, rfl, hs, hv, q⟩ := h
  cases ro
  obtain ⟨t, rfl⟩ := ri
  obtain ⟨its, r, pl, hz⟩ := I.list hs
  obtain ⟨j, h1, h2, h3, h4, h5⟩ := atI_get hv
  obtain ⟨w, ew, rw'⟩ := r.get h2
  have hl := r.length
  have hn := line63
  have fin : EP X pins σ Q w s := ⟨v, H, I, rw', q⟩
  by_cases h0 : 0 ≤ k
  · have hj : k.toNat = j := by
      rw [seqIndex_of h0 h5] at h1
      exact Option.some.inj h1
    exact wpAny_getItem_list pl.isList h0 (by omega) (by rw [hj]; simpa using ew) fin
  · have hj : (k + (its.toArray.size : Int)).toNat = j := by
      rw [seqIndex_neg (by omega) h4] at h1
      rw [List.size_toArray, ← hl]
      exact Option.some.inj h1
    exact wpAny_getItem_list_neg pl.isList (by omega) (by rw [List.size_toArray] <;> omega) (by omega) (by rw [hj]; simpa using ew) fin
/-- the operators of x += e, by two ints -/
theorem bx_augS {G : ς → List LD} {rest : List Stmt} {op : Operator} {g : Int → Int → Int} {We : (Int → Prop) → Prop} {Wi : (Int → Prop) → Prop} {Wr : Int → Int → (ς → Prop) → (ρ → Prop) → Prop} (hop : PIp X op (ipI g)) (i : Nat) {xs : List Int} (hi : WX X c Γ m' e1 Wi) (he : WX X c Γ m2 e We)
    (hr : ∀ k d, BX X c rm G (Γ.set i (.own m ((xs.set k.toNat (g (gIx xs k) d)).map enc))) rest (Wr k d)) (q : Γ[i]? = some (.own m (xs.map enc)) := by rfl)
    (hN : X.N[i]? = some x := by rfl) (hv : Vis X.env.scope x := by first | exact Or.inl rfl | exact Or.inr (Or.inl rfl) | exact Or.inr (Or.inr rfl)) (hd : (x == ("__debug__" : Str)) = false := by decide) (hcd : (x == ("__classdict__" : Str)) = false := by decide)
    (ha : ∀ ov iv new, augStore e1 ov iv new = (do holding [new, ov, iv] (setItem ov iv new); release [new, ov, iv] []; pure .next) := by intros; rfl) :
    BX X c rm G Γ (.AugAssign (.Subscript (.Name x p) e1 p2) op e pos :: rest) (fun N R => Wi fun k => cIx xs k ∧ We fun d => Wr k d N R) :=
  ⟨fun N N' R R' kn kr w => hi.mo _ _ (fun k w => ⟨w.1, he.mo _ _ (fun d w => (hr k d).mo _ _ _ _ kn kr w) w.2⟩) w,
    PSs.mono (pss_cons (ps_augS (pe_var hN hv hd hcd) hi.run pget_list he.run hop set_list ha) (PSs.ex fun (z : Int × Int) => (hr z.1 z.2).run)) fun D σ H ⟨Z, S, R, w⟩ => by
      obtain ⟨l, vs, e1, h1, hl, hz, dd, s1, nm⟩ := R.ownA q
      refine ⟨_, e1, Z, S, R, hi.mo _ _ (fun k w u H2 ev2 R2 d2 => ?_) w⟩
      cases (d2 : DA _ H2 u (.int k))
      obtain ⟨l', vs', e2, h2, hl2, hz2, d2', s2, _⟩ := R2.ownA q
      rw [e1] at e2
      cases e2
      have eq2 : vs' = xs.map V.int := DAs.ints d2'
      obtain ⟨⟨h3, h4⟩, w⟩ := w
      have hk : k.toNat < xs.length := by omega
      have hget : xs[k.toNat]? = some (gIx xs k) := by
        show _ = some (xs.getD k.toNat default)
        rw [List.getD_eq_getElem?_getD, List.getElem?_eq_getElem hk]
        rfl
      have hat : atI vs' k = some (.int (gIx xs k)) := by
        have : vs'[k.toNat]? = some (V.int (gIx xs k)) := by rw [eq2, List.getElem?_map, hget]; rfl
        have := atI_nat this
        rwa [Int.toNat_of_nonneg h3] at this
      refine ⟨l, vs', k, _, rfl, rfl, SqL.of h2, hat, Z, S, R2, he.mo _ _ (fun d w u H3 ev3 R3 d3 => ?_) w⟩
      cases (d3 : DA _ H3 u (.int d))
      obtain ⟨l3, vs3, e3, h3', hl3, hz3, d3', s3, _⟩ := R3.ownA q
      rw [e1] at e3
      cases e3
      have eq3 : vs3 = xs.map V.int := DAs.ints d3'
      obtain ⟨ev4, R4⟩ := R3.put (vs' := vs3.set k.toNat (.int (g (gIx xs k) d))) (xs' := (xs.set k.toNat (g (gIx xs k) d)).map enc) q e1 h3' (by rw [List.length_set]; exact hz3) (by rw [List.map_set]; exact DAs.set (.int _) _ d3')
      refine ⟨_, _, rfl, rfl, l, vs3, k, k.toNat, rfl, rfl, h3', ?_, (k, d), tB_at (hr k d).mo (((EvS.of_fa ev2).trans (.of_fa ev3)).trans ev4) R4 w⟩
      unfold ixN
      rw [if_pos h3, if_pos (by rw [hl3]; exact h4)]⟩
theorem bx_aug {G : ς → List LD} {rest : List Stmt} {op : Operator} {g : Int → Int → Int} {We : (Int → Prop) → Prop} {Wr : Int → (ς → Prop) → (ρ → Prop) → Prop} (hop : PIp X op (ipI g)) (i : Nat) {n : Int} (hNd : X.N.Nodup) (he : WX X c Γ m2 e We)
    (hr : ∀ d, BX X c rm G (Γ.set i (.d .fr (enc (g n d)))) rest (Wr d)) (q : Γ[i]? = some (.d m (enc n)) := by rfl) (hN : X.N[i]? = some x := by rfl) (hx : Loc X.env.scope x := by first | exact Or.inl rfl | exact Or.inr rfl) (hf : X.fn x = true ∨ X.env.scope.names.lookup x = some .local := by first | exact .inl rfl | exact .inr rfl) :
    BX X c rm G Γ (.AugAssign (.Name x p) op e pos :: rest) (fun N R => We fun d => Wr d N R) :=
  ⟨fun N N' R R' kn kr w => he.mo _ _ (fun d w => (hr d).mo _ _ _ _ kn kr w) w,
    PSs.mono (pss_cons (ps_aug hNd hN hx he.run hop hf) (PSs.ex fun d => (hr d).run)) fun D σ H ⟨Z, S, R, w⟩ => by
      obtain ⟨nm, v, e1, d1⟩ := R.slot i _ q
      cases (d1 : DA _ H v (.int n))
      refine ⟨_, e1, Z, S, R, he.mo _ _ (fun d w u H2 ev2 R2 d2 => ?_) w⟩
      cases (d2 : DA _ H2 u (.int d))
      exact ⟨n, d, rfl, rfl, d, tB_at (hr d).mo (.of_fa ev2) (R2.set (by decide) (.int _)) w⟩⟩
/-- a, b = e1, e2 (plain locals) -/
theorem bx_par {G : ς → List LD} {rest : List Stmt} {i j : Nat} {x y : Str} {py pt : Pos} {kt k2 : Nat} {pt2 : Pos} {Wa : (α → Prop) → Prop} {Wb : (β → Prop) → Prop} {Wr : α → β → (ς → Prop) → (ρ → Prop) → Prop} (hN : X.N.Nodup) (hc : X.calm = true) (hi : X.N[i]? = some x) (hj : X.N[j]? = some y) (hij : i ≠ j)
    (hx : X.env.scope.names.lookup x = some .local) (hy : X.env.scope.names.lookup y = some .local) (ha : WX X c Γ m e1 Wa) (hb : WX X c Γ m e2 Wb) (hr : ∀ a b, BX X c rm G ((Γ.set i (.d m (enc a))).set j (.d m (enc b))) rest (Wr a b))
    (s1 : starEach [e1, e2] X.env = (false, eval e1 X.env) :: starEach [e2] X.env) (s2 : starEach [e2] X.env = (false, eval e2 X.env) :: starEach [] X.env)
    (hw : swappedStores [.Tuple [.Name x px, .Name y py] kt pt] (.Tuple [e1, e2] k2 pt2) X.env = pure (some [x, y]) := by rfl)
    (hs : swapsWithSole [.Tuple [.Name x px, .Name y py] kt pt] (.Tuple [e1, e2] k2 pt2) pos.line X.env = pure false := by rfl) (nm : m ≠ .any := by decide) :
    BX X c rm G Γ (.Assign [.Tuple [.Name x px, .Name y py] kt pt] (.Tuple [e1, e2] k2 pt2) pos :: rest) (fun N R => Wa fun a => Wb fun b => Wr a b N R) :=
  ⟨fun N N' R R' kn kr w => ha.mo _ _ (fun a w => hb.mo _ _ (fun b w => (hr a b).mo _ _ _ _ kn kr w) w) w,
    PSs.mono (pss_cons (ps_par hc hN hi hj hij hx hy (pa_cons ha.run (pa_cons hb.run pa_nil s2) s1) hw hs) (PSs.ex fun (z : α × β) => (hr z.1 z.2).run)) fun D σ H ⟨Z, S, R, w⟩ => ⟨Z, S, R, ha.mo _ _ (fun a w v H1 ev1 R1 d1 => ⟨Z, S, R1, hb.mo _ _ (fun b w u H2 ev2 R2 d2 =>
      ⟨v, u, rfl, (a, b), tB_at (hr a b).mo ((EvS.of_fa ev1).trans (.of_fa ev2)) ((R2.set nm (d1.evo ev2 (rg_nfa (fun a => mo_fa) m) fun _ _ _ z => z)).set nm d2) w⟩) w⟩) w⟩⟩
end

/-! ## defs -/
section
variable {P : Program} {w : World} {K : PySem.W.Frag} {mg : Str → Option Value} {base : Heap} {x qual : Str} {st : Stmt} {f : Addr} {fd : FuncData} {N ps : List Str} {k : Nat}
/-- the slots at the entry -/
def G0 (N : List Str) (ds : List PyData) : List LD := ds.map (.d .pl) ++ List.replicate (N.length - ds.length) .no
def c0 (H : Hp) : Cf := ⟨fun a => H a = none, none⟩
def cF (H : Hp) (F : Feed) : Cf := ⟨fun a => H a = none, some F⟩
def S0 : Nat → Rgn := fun _ _ => False
theorem rep0 {H : Hp} {N : List Str} {vs : List V} {ds : List PyData} (d : DAs (fun _ => True) H vs ds) (hl : ds.length ≤ N.length) : Rep (c0 H) (fun _ => False) S0 H (L2.start N vs) (G0 N ds) := by
  have nm : ∀ a, ¬ Mo (c0 H) (fun _ => False) S0 a := fun a z => by
    rcases z with z | ⟨_, z⟩ | ⟨_, z, _⟩
    · exact z
    · exact z
    · cases z
  have e1 := d.length
  refine ⟨fun i l q => ?_, fun _ _ _ z => z.elim, fun _ _ z => z.elim, fun a n => ⟨n, nm a⟩, fun F q => (nomatch q), ?_, fun _ z => z.elim⟩
  · unfold G0 at q
    unfold L2.start
    by_cases hi : i < ds.length
    · rw [List.getElem?_append_left (by simpa using hi), List.getElem?_map] at q
      rw [List.getElem?_append_left (by simpa using (by omega : i < vs.length)), List.getElem?_map]
      rw [List.getElem?_eq_getElem hi] at q
      cases q
      obtain ⟨v, h1, h2⟩ := d.get' (List.getElem?_eq_getElem hi)
      rw [h1]
      exact ⟨by decide, v, rfl, DA.map (fun a xs _ r => ⟨nm a, r⟩) (fun _ _ r => r) _ h2⟩
    · rw [List.getElem?_append_right (by simpa using hi), List.getElem?_replicate] at q
      split at q
      · cases q; trivial
      · cases q
  · simp only [G0, L2.start, List.length_append, List.length_map, List.length_replicate]
    omega
theorem repF {H : Hp} {F : Feed} {N : List Str} {vs : List V} {ds : List PyData} (d : DAs (fun a => a ≠ F.a) H vs ds) (hf : FeedAt H F) (hl : ds.length + 1 ≤ N.length) :
    Rep (cF H F) (fun _ => False) S0 H (L2.start N (.ref F.a :: vs)) (.fd :: (ds.map (.d .pl) ++ List.replicate (N.length - (ds.length + 1)) .no)) := by
  have nm : ∀ a, Mo (cF H F) (fun _ => False) S0 a → a = F.a := fun a z => by
    rcases z with z | ⟨_, z⟩ | ⟨_, z, h⟩
    · exact z.elim
    · exact z.elim
    · cases z; exact h
  have e1 := d.length
  refine ⟨fun i l q => ?_, fun _ _ _ z => z.elim, fun _ _ z => z.elim, fun a n => ⟨n, fun z => ?_⟩, fun F' q => ?_, ?_, fun _ z => z.elim⟩
  · unfold L2.start
    cases i with
    | zero =>
      simp at q
      subst q
      exact ⟨F, rfl, rfl⟩
    | succ i =>
      rw [List.getElem?_cons_succ] at q
      by_cases hi : i < ds.length
      · rw [List.getElem?_append_left (by simpa using hi), List.getElem?_map] at q
        rw [List.getElem?_append_left (by simpa using (by omega : i < vs.length)), List.getElem?_map, List.getElem?_cons_succ]
        rw [List.getElem?_eq_getElem hi] at q
        cases q
        obtain ⟨v, h1, h2⟩ := d.get' (List.getElem?_eq_getElem hi)
        rw [h1]
        exact ⟨by decide, v, rfl, DA.map (fun a xs ha r => ⟨fun z => ha (nm a z), r⟩) (fun _ _ r => r) _ h2⟩
      · rw [List.getElem?_append_right (by simpa using hi), List.getElem?_replicate] at q
        split at q
        · cases q; trivial
        · cases q
  · obtain ⟨⟨_, _, _, h, _⟩, _⟩ := hf
    rw [nm a z] at n
    rw [n] at h
    cases h
  · cases (show some F = some F' from q)
    exact ⟨hf, fun z => hf.2.2.2 (nm _ z)⟩
  · simp only [L2.start, List.length_append, List.length_map, List.length_replicate, List.length_cons]
    omega
variable {ρ ς : Type} [Enc ρ]
abbrev cxN (P : Program) (w : World) (K : PySem.W.Frag) (mg : Str → Option Value) (base : Heap) (N : List Str) (qual : Str) (st : Stmt) (f : Addr) (cdv : Value) (A : Around) (outer : List Env) (s : Shared) (H : Hp) (E : XK) : Cx := (cxOf CX0 P w K mg base N qual (defScope st) f cdv A outer s H E).nox
theorem evs0 {H H' : Hp} {S' : Nat → Rgn} (e : EvS (c0 H) (fun _ => False) S0 H S' H') : Same H H' := fun a o ho => e.1 a o (.inl fun z => by
    rcases z with z | ⟨_, z⟩ | ⟨_, z, _⟩
    · exact z
    · exact z
    · cases z) ho
theorem evsF {H H' : Hp} {Fd : Feed} {S' : Nat → Rgn} (e : EvS (cF H Fd) (fun _ => False) S0 H S' H') : Evo (fun a => a = Fd.a) H H' := e.1.mono fun a z => by
    rcases z with z | ⟨_, z⟩ | ⟨_, z, h⟩
    · exact z.elim
    · exact z.elim
    · cases z; exact h
theorem fin0 {G : ς → List LD} {cdv : Value} {A : Around} {outer : List Env} {s : Shared} {H : Hp} {E : XK} {vs : List V} {ds : List PyData} {Q : VK} {W : (ς → Prop) → (ρ → Prop) → Prop} (d : DAs (fun _ => True) H vs ds) (hl : ds.length ≤ N.length)
    (b : BX (cxN P w K mg base N qual st f cdv A outer s H E) (c0 H) .fr G (G0 N ds) (defBody st) W) (h : ∀ q : ρ → Prop, q = (fun r => ∀ v H', Same H H' → DA (fun a => H a = none) H' v (enc r) → Q v H') → W (fun _ => ∃ r, enc r = PyData.none ∧ q r) q) :
    ∃ t, PSs (cxN P w K mg base N qual st f cdv A outer s H E) (defBody st) t ∧ t { nx := fun _ H' => Q .non H', rt := Q } (L2.start N vs) H := by
  refine ⟨_, b.run, _, _, rep0 d hl, b.mo _ _ _ _ (fun s q σ' H' S' e R' => ?_) (fun r q v H' S' e R' d => ?_) (h _ rfl)⟩
  · obtain ⟨r, er, q⟩ := q
    exact q .non H' (evs0 e) (by rw [er]; exact .non)
  · exact q v H' (evs0 e) (DA.map (fun a xs ha r => ⟨ha.2, r⟩) (fun _ _ r => r) _ d)
theorem finF {G : ς → List LD} {cdv : Value} {A : Around} {outer : List Env} {s : Shared} {H : Hp} {E : XK} {vs : List V} {ds : List PyData} {Q : VK} {W : (ς → Prop) → (ρ → Prop) → Prop} {Fd : Feed} (d : DAs (fun a => a ≠ Fd.a) H vs ds) (fe : FeedAt H Fd) (hl : ds.length + 1 ≤ N.length)
    (b : BX (cxN P w K mg base N qual st f cdv A outer s H E) (cF H Fd) .fr G (.fd :: (ds.map (.d .pl) ++ List.replicate (N.length - (ds.length + 1)) .no)) (defBody st) W)
    (h : ∀ q : ρ → Prop, q = (fun r => ∀ v H', Evo (fun a => a = Fd.a) H H' → FeedAt H' Fd → DA (fun a => H a = none) H' v (enc r) → Q v H') → W (fun _ => ∃ r, enc r = PyData.none ∧ q r) q) :
    ∃ t, PSs (cxN P w K mg base N qual st f cdv A outer s H E) (defBody st) t ∧ t { nx := fun _ H' => Q .non H', rt := Q } (L2.start N (.ref Fd.a :: vs)) H := by
  refine ⟨_, b.run, _, _, repF d fe hl, b.mo _ _ _ _ (fun s q σ' H' S' e R' => ?_) (fun r q v H' S' e R' d => ?_) (h _ rfl)⟩
  · obtain ⟨r, er, q⟩ := q
    exact q .non H' (evsF e) (R'.feed Fd rfl).1 (by rw [er]; exact .non)
  · exact q v H' (evsF e) (R'.feed Fd rfl).1 (DA.map (fun a xs ha r => ⟨ha.2, r⟩) (fun _ _ r => r) _ d)
theorem sc_len (Sc : FnScope N ps (defScope st)) : ps.length ≤ N.length := by
  have := congrArg List.length Sc.pre
  rw [List.length_take] at this
  omega
end

section
variable {τ0 τ1 τ2 τ3 τ4 τ5 ρ ς : Type} [Enc τ0] [Enc τ1] [Enc τ2] [Enc τ3] [Enc τ4] [Enc τ5] [Enc ρ]
variable {P : Program} {w : World} {K : PySem.W.Frag} {mg : Str → Option Value} {base : Heap} {x qual : Str} {st : Stmt} {f : Addr} {fd : FuncData} {N ps : List Str} {k : Nat} {G : ς → List LD}
theorem okF0 {s : (ρ → Prop) → Prop} {W : (ς → Prop) → (ρ → Prop) → Prop} (F : Fun K x qual st f fd) (Sc : FnScope N ps (defScope st)) (hl : ps.length = 1)
    (body : ∀  cdv A outer s H Fd E, Room k (A.deeper (envOfC qual (defScope st) s.heap.objs.size f cdv)) → BX (cxN P w K mg base N qual st f cdv A outer s H E) (cF H Fd) .fr G (.fd :: (([] : List PyData).map (.d .pl) ++ List.replicate (N.length - 1) .no)) (defBody st) (W))
    (h : ∀ Q : ρ → Prop, s Q → W (fun _ => ∃ r, enc r = PyData.none ∧ Q r) Q) : FnOk P w K mg base CX0 (k + 1) f fd ps (sf0 s) := by
  have hpl := sc_len Sc
  refine F.ok Sc (fun vs H Q E ⟨Fd, us, ds, eu, fe, d, e, q⟩ => by rw [eu, List.length_cons, d.length, e, hl]; rfl) fun cdv A outer s H vs Q E hr ⟨Fd, us, ds, eu, fe, d, e, q⟩ => ?_
  subst eu e
  exact finF d fe (by rw [hl] at hpl; exact hpl) (body  cdv A outer s H Fd E hr) fun Q' eQ => by subst eQ; exact h  _ q
theorem ok1 {s : τ0 → (ρ → Prop) → Prop} {W : τ0 → (ς → Prop) → (ρ → Prop) → Prop} (F : Fun K x qual st f fd) (Sc : FnScope N ps (defScope st)) (hl : ps.length = 1)
    (body : ∀ a0 cdv A outer s H E, Room k (A.deeper (envOfC qual (defScope st) s.heap.objs.size f cdv)) → BX (cxN P w K mg base N qual st f cdv A outer s H E) (c0 H) .fr G (G0 N [enc a0]) (defBody st) (W a0))
    (h : ∀ a0, ∀ Q : ρ → Prop, s a0 Q → W a0 (fun _ => ∃ r, enc r = PyData.none ∧ Q r) Q) : FnOk P w K mg base CX0 (k + 1) f fd ps (sp1 s) := by
  have hpl := sc_len Sc
  refine F.ok Sc (fun vs H Q E ⟨ds, d, a0, e, q⟩ => by rw [d.length, e, hl]; rfl) fun cdv A outer s H vs Q E hr ⟨ds, d, a0, e, q⟩ => ?_
  subst e
  exact fin0 d (by rw [hl] at hpl; exact hpl) (body a0 cdv A outer s H E hr) fun Q' eQ => by subst eQ; exact h a0 _ q
theorem okF1 {s : τ0 → (ρ → Prop) → Prop} {W : τ0 → (ς → Prop) → (ρ → Prop) → Prop} (F : Fun K x qual st f fd) (Sc : FnScope N ps (defScope st)) (hl : ps.length = 2)
    (body : ∀ a0 cdv A outer s H Fd E, Room k (A.deeper (envOfC qual (defScope st) s.heap.objs.size f cdv)) → BX (cxN P w K mg base N qual st f cdv A outer s H E) (cF H Fd) .fr G (.fd :: (([enc a0] : List PyData).map (.d .pl) ++ List.replicate (N.length - 2) .no)) (defBody st) (W a0))
    (h : ∀ a0, ∀ Q : ρ → Prop, s a0 Q → W a0 (fun _ => ∃ r, enc r = PyData.none ∧ Q r) Q) : FnOk P w K mg base CX0 (k + 1) f fd ps (sf1 s) := by
  have hpl := sc_len Sc
  refine F.ok Sc (fun vs H Q E ⟨Fd, us, ds, eu, fe, d, a0, e, q⟩ => by rw [eu, List.length_cons, d.length, e, hl]; rfl) fun cdv A outer s H vs Q E hr ⟨Fd, us, ds, eu, fe, d, a0, e, q⟩ => ?_
  subst eu e
  exact finF d fe (by rw [hl] at hpl; exact hpl) (body a0 cdv A outer s H Fd E hr) fun Q' eQ => by subst eQ; exact h a0 _ q
theorem ok2 {s : τ0 → τ1 → (ρ → Prop) → Prop} {W : τ0 → τ1 → (ς → Prop) → (ρ → Prop) → Prop} (F : Fun K x qual st f fd) (Sc : FnScope N ps (defScope st)) (hl : ps.length = 2)
    (body : ∀ a0 a1 cdv A outer s H E, Room k (A.deeper (envOfC qual (defScope st) s.heap.objs.size f cdv)) → BX (cxN P w K mg base N qual st f cdv A outer s H E) (c0 H) .fr G (G0 N [enc a0, enc a1]) (defBody st) (W a0 a1))
    (h : ∀ a0 a1, ∀ Q : ρ → Prop, s a0 a1 Q → W a0 a1 (fun _ => ∃ r, enc r = PyData.none ∧ Q r) Q) : FnOk P w K mg base CX0 (k + 1) f fd ps (sp2 s) := by
  have hpl := sc_len Sc
  refine F.ok Sc (fun vs H Q E ⟨ds, d, a0, a1, e, q⟩ => by rw [d.length, e, hl]; rfl) fun cdv A outer s H vs Q E hr ⟨ds, d, a0, a1, e, q⟩ => ?_
  subst e
  exact fin0 d (by rw [hl] at hpl; exact hpl) (body a0 a1 cdv A outer s H E hr) fun Q' eQ => by subst eQ; exact h a0 a1 _ q
theorem okF2 {s : τ0 → τ1 → (ρ → Prop) → Prop} {W : τ0 → τ1 → (ς → Prop) → (ρ → Prop) → Prop} (F : Fun K x qual st f fd) (Sc : FnScope N ps (defScope st)) (hl : ps.length = 3)
    (body : ∀ a0 a1 cdv A outer s H Fd E, Room k (A.deeper (envOfC qual (defScope st) s.heap.objs.size f cdv)) → BX (cxN P w K mg base N qual st f cdv A outer s H E) (cF H Fd) .fr G (.fd :: (([enc a0, enc a1] : List PyData).map (.d .pl) ++ List.replicate (N.length - 3) .no)) (defBody st) (W a0 a1))
    (h : ∀ a0 a1, ∀ Q : ρ → Prop, s a0 a1 Q → W a0 a1 (fun _ => ∃ r, enc r = PyData.none ∧ Q r) Q) : FnOk P w K mg base CX0 (k + 1) f fd ps (sf2 s) := by
  have hpl := sc_len Sc
  refine F.ok Sc (fun vs H Q E ⟨Fd, us, ds, eu, fe, d, a0, a1, e, q⟩ => by rw [eu, List.length_cons, d.length, e, hl]; rfl) fun cdv A outer s H vs Q E hr ⟨Fd, us, ds, eu, fe, d, a0, a1, e, q⟩ => ?_
  subst eu e
  exact finF d fe (by rw [hl] at hpl; exact hpl) (body a0 a1 cdv A outer s H Fd E hr) fun Q' eQ => by subst eQ; exact h a0 a1 _ q
theorem ok3 {s : τ0 → τ1 → τ2 → (ρ → Prop) → Prop} {W : τ0 → τ1 → τ2 → (ς → Prop) → (ρ → Prop) → Prop} (F : Fun K x qual st f fd) (Sc : FnScope N ps (defScope st)) (hl : ps.length = 3)
    (body : ∀ a0 a1 a2 cdv A outer s H E, Room k (A.deeper (envOfC qual (defScope st) s.heap.objs.size f cdv)) → BX (cxN P w K mg base N qual st f cdv A outer s H E) (c0 H) .fr G (G0 N [enc a0, enc a1, enc a2]) (defBody st) (W a0 a1 a2))
    (h : ∀ a0 a1 a2, ∀ Q : ρ → Prop, s a0 a1 a2 Q → W a0 a1 a2 (fun _ => ∃ r, enc r = PyData.none ∧ Q r) Q) : FnOk P w K mg base CX0 (k + 1) f fd ps (sp3 s) := by
  have hpl := sc_len Sc
  refine F.ok Sc (fun vs H Q E ⟨ds, d, a0, a1, a2, e, q⟩ => by rw [d.length, e, hl]; rfl) fun cdv A outer s H vs Q E hr ⟨ds, d, a0, a1, a2, e, q⟩ => ?_
  subst e
  exact fin0 d (by rw [hl] at hpl; exact hpl) (body a0 a1 a2 cdv A outer s H E hr) fun Q' eQ => by subst eQ; exact h a0 a1 a2 _ q
theorem okF3 {s : τ0 → τ1 → τ2 → (ρ → Prop) → Prop} {W : τ0 → τ1 → τ2 → (ς → Prop) → (ρ → Prop) → Prop} (F : Fun K x qual st f fd) (Sc : FnScope N ps (defScope st)) (hl : ps.length = 4)
    (body : ∀ a0 a1 a2 cdv A outer s H Fd E, Room k (A.deeper (envOfC qual (defScope st) s.heap.objs.size f cdv)) → BX (cxN P w K mg base N qual st f cdv A outer s H E) (cF H Fd) .fr G (.fd :: (([enc a0, enc a1, enc a2] : List PyData).map (.d .pl) ++ List.replicate (N.length - 4) .no)) (defBody st) (W a0 a1 a2))
    (h : ∀ a0 a1 a2, ∀ Q : ρ → Prop, s a0 a1 a2 Q → W a0 a1 a2 (fun _ => ∃ r, enc r = PyData.none ∧ Q r) Q) : FnOk P w K mg base CX0 (k + 1) f fd ps (sf3 s) := by
  have hpl := sc_len Sc
  refine F.ok Sc (fun vs H Q E ⟨Fd, us, ds, eu, fe, d, a0, a1, a2, e, q⟩ => by rw [eu, List.length_cons, d.length, e, hl]; rfl) fun cdv A outer s H vs Q E hr ⟨Fd, us, ds, eu, fe, d, a0, a1, a2, e, q⟩ => ?_
  subst eu e
  exact finF d fe (by rw [hl] at hpl; exact hpl) (body a0 a1 a2 cdv A outer s H Fd E hr) fun Q' eQ => by subst eQ; exact h a0 a1 a2 _ q
theorem ok4 {s : τ0 → τ1 → τ2 → τ3 → (ρ → Prop) → Prop} {W : τ0 → τ1 → τ2 → τ3 → (ς → Prop) → (ρ → Prop) → Prop} (F : Fun K x qual st f fd) (Sc : FnScope N ps (defScope st)) (hl : ps.length = 4)
    (body : ∀ a0 a1 a2 a3 cdv A outer s H E, Room k (A.deeper (envOfC qual (defScope st) s.heap.objs.size f cdv)) → BX (cxN P w K mg base N qual st f cdv A outer s H E) (c0 H) .fr G (G0 N [enc a0, enc a1, enc a2, enc a3]) (defBody st) (W a0 a1 a2 a3))
    (h : ∀ a0 a1 a2 a3, ∀ Q : ρ → Prop, s a0 a1 a2 a3 Q → W a0 a1 a2 a3 (fun _ => ∃ r, enc r = PyData.none ∧ Q r) Q) : FnOk P w K mg base CX0 (k + 1) f fd ps (sp4 s) := by
  have hpl := sc_len Sc
  refine F.ok Sc (fun vs H Q E ⟨ds, d, a0, a1, a2, a3, e, q⟩ => by rw [d.length, e, hl]; rfl) fun cdv A outer s H vs Q E hr ⟨ds, d, a0, a1, a2, a3, e, q⟩ => ?_
  subst e
  exact fin0 d (by rw [hl] at hpl; exact hpl) (body a0 a1 a2 a3 cdv A outer s H E hr) fun Q' eQ => by subst eQ; exact h a0 a1 a2 a3 _ q
theorem okF4 {s : τ0 → τ1 → τ2 → τ3 → (ρ → Prop) → Prop} {W : τ0 → τ1 → τ2 → τ3 → (ς → Prop) → (ρ → Prop) → Prop} (F : Fun K x qual st f fd) (Sc : FnScope N ps (defScope st)) (hl : ps.length = 5)
    (body : ∀ a0 a1 a2 a3 cdv A outer s H Fd E, Room k (A.deeper (envOfC qual (defScope st) s.heap.objs.size f cdv)) → BX (cxN P w K mg base N qual st f cdv A outer s H E) (cF H Fd) .fr G (.fd :: (([enc a0, enc a1, enc a2, enc a3] : List PyData).map (.d .pl) ++ List.replicate (N.length - 5) .no)) (defBody st) (W a0 a1 a2 a3))
    (h : ∀ a0 a1 a2 a3, ∀ Q : ρ → Prop, s a0 a1 a2 a3 Q → W a0 a1 a2 a3 (fun _ => ∃ r, enc r = PyData.none ∧ Q r) Q) : FnOk P w K mg base CX0 (k + 1) f fd ps (sf4 s) := by
  have hpl := sc_len Sc
  refine F.ok Sc (fun vs H Q E ⟨Fd, us, ds, eu, fe, d, a0, a1, a2, a3, e, q⟩ => by rw [eu, List.length_cons, d.length, e, hl]; rfl) fun cdv A outer s H vs Q E hr ⟨Fd, us, ds, eu, fe, d, a0, a1, a2, a3, e, q⟩ => ?_
  subst eu e
  exact finF d fe (by rw [hl] at hpl; exact hpl) (body a0 a1 a2 a3 cdv A outer s H Fd E hr) fun Q' eQ => by subst eQ; exact h a0 a1 a2 a3 _ q
theorem ok5 {s : τ0 → τ1 → τ2 → τ3 → τ4 → (ρ → Prop) → Prop} {W : τ0 → τ1 → τ2 → τ3 → τ4 → (ς → Prop) → (ρ → Prop) → Prop} (F : Fun K x qual st f fd) (Sc : FnScope N ps (defScope st)) (hl : ps.length = 5)
    (body : ∀ a0 a1 a2 a3 a4 cdv A outer s H E, Room k (A.deeper (envOfC qual (defScope st) s.heap.objs.size f cdv)) → BX (cxN P w K mg base N qual st f cdv A outer s H E) (c0 H) .fr G (G0 N [enc a0, enc a1, enc a2, enc a3, enc a4]) (defBody st) (W a0 a1 a2 a3 a4))
    (h : ∀ a0 a1 a2 a3 a4, ∀ Q : ρ → Prop, s a0 a1 a2 a3 a4 Q → W a0 a1 a2 a3 a4 (fun _ => ∃ r, enc r = PyData.none ∧ Q r) Q) : FnOk P w K mg base CX0 (k + 1) f fd ps (sp5 s) := by
  have hpl := sc_len Sc
  refine F.ok Sc (fun vs H Q E ⟨ds, d, a0, a1, a2, a3, a4, e, q⟩ => by rw [d.length, e, hl]; rfl) fun cdv A outer s H vs Q E hr ⟨ds, d, a0, a1, a2, a3, a4, e, q⟩ => ?_
  subst e
  exact fin0 d (by rw [hl] at hpl; exact hpl) (body a0 a1 a2 a3 a4 cdv A outer s H E hr) fun Q' eQ => by subst eQ; exact h a0 a1 a2 a3 a4 _ q
theorem okF5 {s : τ0 → τ1 → τ2 → τ3 → τ4 → (ρ → Prop) → Prop} {W : τ0 → τ1 → τ2 → τ3 → τ4 → (ς → Prop) → (ρ → Prop) → Prop} (F : Fun K x qual st f fd) (Sc : FnScope N ps (defScope st)) (hl : ps.length = 6)
    (body : ∀ a0 a1 a2 a3 a4 cdv A outer s H Fd E, Room k (A.deeper (envOfC qual (defScope st) s.heap.objs.size f cdv)) → BX (cxN P w K mg base N qual st f cdv A outer s H E) (cF H Fd) .fr G (.fd :: (([enc a0, enc a1, enc a2, enc a3, enc a4] : List PyData).map (.d .pl) ++ List.replicate (N.length - 6) .no)) (defBody st) (W a0 a1 a2 a3 a4))
    (h : ∀ a0 a1 a2 a3 a4, ∀ Q : ρ → Prop, s a0 a1 a2 a3 a4 Q → W a0 a1 a2 a3 a4 (fun _ => ∃ r, enc r = PyData.none ∧ Q r) Q) : FnOk P w K mg base CX0 (k + 1) f fd ps (sf5 s) := by
  have hpl := sc_len Sc
  refine F.ok Sc (fun vs H Q E ⟨Fd, us, ds, eu, fe, d, a0, a1, a2, a3, a4, e, q⟩ => by rw [eu, List.length_cons, d.length, e, hl]; rfl) fun cdv A outer s H vs Q E hr ⟨Fd, us, ds, eu, fe, d, a0, a1, a2, a3, a4, e, q⟩ => ?_
  subst eu e
  exact finF d fe (by rw [hl] at hpl; exact hpl) (body a0 a1 a2 a3 a4 cdv A outer s H Fd E hr) fun Q' eQ => by subst eQ; exact h a0 a1 a2 a3 a4 _ q
theorem ok6 {s : τ0 → τ1 → τ2 → τ3 → τ4 → τ5 → (ρ → Prop) → Prop} {W : τ0 → τ1 → τ2 → τ3 → τ4 → τ5 → (ς → Prop) → (ρ → Prop) → Prop} (F : Fun K x qual st f fd) (Sc : FnScope N ps (defScope st)) (hl : ps.length = 6)
    (body : ∀ a0 a1 a2 a3 a4 a5 cdv A outer s H E, Room k (A.deeper (envOfC qual (defScope st) s.heap.objs.size f cdv)) → BX (cxN P w K mg base N qual st f cdv A outer s H E) (c0 H) .fr G (G0 N [enc a0, enc a1, enc a2, enc a3, enc a4, enc a5]) (defBody st) (W a0 a1 a2 a3 a4 a5))
    (h : ∀ a0 a1 a2 a3 a4 a5, ∀ Q : ρ → Prop, s a0 a1 a2 a3 a4 a5 Q → W a0 a1 a2 a3 a4 a5 (fun _ => ∃ r, enc r = PyData.none ∧ Q r) Q) : FnOk P w K mg base CX0 (k + 1) f fd ps (sp6 s) := by
  have hpl := sc_len Sc
  refine F.ok Sc (fun vs H Q E ⟨ds, d, a0, a1, a2, a3, a4, a5, e, q⟩ => by rw [d.length, e, hl]; rfl) fun cdv A outer s H vs Q E hr ⟨ds, d, a0, a1, a2, a3, a4, a5, e, q⟩ => ?_
  subst e
  exact fin0 d (by rw [hl] at hpl; exact hpl) (body a0 a1 a2 a3 a4 a5 cdv A outer s H E hr) fun Q' eQ => by subst eQ; exact h a0 a1 a2 a3 a4 a5 _ q
end
end DL
namespace DL
open PySem PySem.Spec PyProof.Rows L2
open Enc (enc)
/-! ## a def of the text and its promise -/
structure Df (K : PySem.W.Frag) (mg : Str → Option Value) (x : Str) (st : Stmt) : Prop where
  h : ∃ f fd, Fun K x x st f fd ∧ mg x = some (.ref f)
def Cl (P : Program) (w : World) (K : PySem.W.Frag) (mg : Str → Option Value) (base : Heap) (x : Str) (k : Nat) (ps : List Str) (sp : Sp) : Prop :=
  ∃ f fd, mg x = some (.ref f) ∧ PySem.W.keepIn K (.ref f) = true ∧ Binds K fd ps [] ∧ FnOk P w K mg base CX0 k f fd ps sp
theorem Room.un65 {k : Nat} {A : Around} (r : Room k A) : A.units + 65 < cLine := by have := r.un; omega
theorem Rk.le_rfl (m : Rk) : m.le m = true := by cases m <;> rfl
section
variable {α β γ δ ρ ς ς1 : Type} [Enc α] [Enc β] [Enc γ] [Enc δ] [Enc ρ]
variable {X : Cx} {c : Cf} {Γ Γ' : List LD} {m m' m1 m2 rm : Rk} {e e1 e2 e3 e4 tg : Expr} {es : List Expr} {pos p p2 px apos cpos : Pos} {k k1 : Bool} {x y : Str}
/-- a name that holds what is no list -/
theorem wx_vn (i : Nat) {a : α} {x : Str} (hΓ : Γ[i]? = some (.d m' (enc a)) := by rfl) (hN : X.N[i]? = some x := by rfl) (hv : Vis X.env.scope x := by first | exact Or.inl rfl | exact Or.inr (Or.inl rfl) | exact Or.inr (Or.inr rfl)) (hd : (x == ("__debug__" : Str)) = false := by decide)
    (hcd : (x == ("__classdict__" : Str)) = false := by decide) (k : Enc.nl α = true := by rfl) : WX X c Γ m (.Name x pos) (Wp True a) := WX.nl (wx_var i hΓ hN hv hd hcd) k
/-- a module's constant -/
theorem wx_globI {i : Int} (hm : ∃ t, X.mg x = some (.int i t)) (hg : Gl X x := by rfl) (hd : (x == ("__debug__" : Str)) = false := by decide) : WX X c Γ m (.Name x pos) (Wp True i) := by
  obtain ⟨t, hm⟩ := hm
  exact wx_of_c (v := .int i) (pe_glob hg hm ⟨t, rfl⟩ hd) fun _ _ => .int i
/-- is None, is not None -/
class NoneC (α : Type) [Enc α] : Prop where
  nn : ∀ a : α, enc a ≠ PyData.none
instance : NoneC Int := ⟨fun _ h => nomatch h⟩
instance : NoneC Bool := ⟨fun _ h => nomatch h⟩
instance : NoneC Str := ⟨fun _ h => nomatch h⟩
instance : NoneC (List α) := ⟨fun _ h => nomatch h⟩
instance : NoneC (α × β) := ⟨fun _ h => nomatch h⟩
instance : NoneC (T3 α β γ) := ⟨fun _ h => nomatch h⟩
instance : NoneC (T4 α β γ δ) := ⟨fun _ h => nomatch h⟩
def isNn : PyData → Bool
  | .none => true
  | _ => false
theorem non_iff {A : Rgn} {H : Hp} {v : V} {d : PyData} (h : DA A H v d) : decide (v = .non) = isNn d := by
  cases h <;> simp [isNn]
theorem optN [NoneC α] (o : Option α) : isNn (enc o) = o.isNone := by
  cases o with
  | none => rfl
  | some a =>
    have := NoneC.nn a
    show isNn (enc a) = false
    cases e : enc a with
    | none => exact absurd e this
    | _ => rfl
theorem dop_isN [NoneC α] : DOp (fun x y H Q => y = .non ∧ Q (.bl (decide (x = .non))) H) (fun _ _ => True) (fun (o : Option α) (_ : Unit) => o.isNone) := by
  intro A H x y a b Q _ hx hy _ k
  cases (hy : DA A H y .none)
  refine ⟨rfl, ?_⟩
  rw [non_iff hx, optN]
  exact k _ H (.refl H) (.bl _)
theorem dop_notN [NoneC α] : DOp (fun x y H Q => y = .non ∧ Q (.bl (!decide (x = .non))) H) (fun _ _ => True) (fun (o : Option α) (_ : Unit) => o.isSome) := by
  intro A H x y a b Q _ hx hy _ k
  cases (hy : DA A H y .none)
  refine ⟨rfl, ?_⟩
  rw [non_iff hx, optN]
  have : (!a.isNone) = a.isSome := by cases a <;> rfl
  rw [this]
  exact k _ H (.refl H) (.bl _)
/-- a + b, [x] * n as new lists -/
theorem wn_cat {Wa Wb : (List α → Prop) → Prop} (ha : WX X c Γ m e1 Wa) (hb : WX X c Γ m e2 Wb) : WN X c Γ m (.BinOp e1 .Add e2 pos) (fun Q => Wa fun a => Wb fun b => a.length + b.length ≤ sizeLine ∧ Q (a ++ b)) :=
  ⟨fun _ _ k w => ha.mo _ _ (fun a w => hb.mo _ _ (fun b w => ⟨w.1, k _ w.2⟩) w) w, PE.mono (pe_op op_cat ha.run hb.run) fun σ H Q ⟨Z, S, R, w⟩ => ⟨Z, S, R, ha.mo _ _ (fun a w v H1 ev1 R1 d1 => ⟨Z, S, R1, hb.mo _ _ (fun b w u H2 ev2 R2 d2 => by
    have d1' := d1.evo ev2 (rg_nfa (fun a => mo_fa) m) fun _ _ _ z => z
    obtain ⟨l, vs, rfl, al, r, e1, z, hs⟩ := d1'.lstL
    obtain ⟨l', vs', rfl, al', r', e1', z', hs'⟩ := d2.lstL
    have hz : (vs ++ vs').length ≤ sizeLine := by rw [List.length_append, e1, e1']; exact w.1
    refine ⟨l, l', vs, vs', rfl, rfl, r, r', by rw [e1, e1']; exact w.1, fun p np => ?_⟩
    have ev := ev1.trans ev2 fun a z => .inl z
    have np0 : H p = none := by
      rcases ev.free np with z | z
      · exact z
      · exact absurd (mo_fa z) (R2.dom p np).2
    refine w.2 p _ _ (ev.trans (.of_same (same_new np)) fun a z => .inl z) (R2.same (same_new np)) np0 upd_same hz ?_
    rw [List.map_append]
    exact (das_ne np (hs.append hs')).evo (M := fun _ => False) (.of_same (same_new np)) (fun _ _ z => z) fun _ _ _ z => z) w⟩) w⟩⟩
theorem pn_cat {Pa Pb : Prop} {a b : List α} (ha : WX X c Γ m e1 (Wp Pa a)) (hb : WX X c Γ m e2 (Wp Pb b)) : WN X c Γ m (.BinOp e1 .Add e2 pos) (Wp (Pa ∧ Pb ∧ a.length + b.length ≤ sizeLine) (a ++ b)) :=
  (wn_cat ha hb).imp (fun Q q => ⟨q.1.1, q.1.2.1, q.1.2.2, q.2⟩) mono_wp
/-- [x] * n -/
theorem wn_rep {Wa : (List α → Prop) → Prop} {Wb : (Int → Prop) → Prop} (ha : WX X c Γ m e1 Wa) (hb : WX X c Γ m e2 Wb) : WN X c Γ m (.BinOp e1 .Mult e2 pos) (fun Q => Wa fun a => Wb fun n => (a.length = 1 ∧ -1000000 ≤ n ∧ n ≤ 1000000) ∧ Q (a.flatMap fun x => List.replicate n.toNat x)) :=
  ⟨fun _ _ k w => ha.mo _ _ (fun a w => hb.mo _ _ (fun b w => ⟨w.1, k _ w.2⟩) w) w, PE.mono (pe_op op_rep ha.run hb.run) fun σ H Q ⟨Z, S, R, w⟩ => ⟨Z, S, R, ha.mo _ _ (fun a w v H1 ev1 R1 d1 => ⟨Z, S, R1, hb.mo _ _ (fun n w u H2 ev2 R2 d2 => by
    cases (d2 : DA _ H2 u (.int n))
    have d1' := d1.evo ev2 (rg_nfa (fun a => mo_fa) m) fun _ _ _ z => z
    obtain ⟨l, vs, rfl, al, r, e1, z, hs⟩ := d1'.lstL
    obtain ⟨⟨h1, h2, h3⟩, w⟩ := w
    match a, vs, e1, h1 with
    | [d], [v], _, _ =>
      cases hs with
      | cons q1 _ =>
      have hsl := sizeLine_eq
      have hz : (List.replicate n.toNat v).length ≤ sizeLine := by rw [List.length_replicate]; omega
      refine ⟨l, n, [v], rfl, rfl, r, by omega, by omega, by rw [List.length_singleton, Nat.one_mul]; omega, fun p np => ?_⟩
      have ev := ev1.trans ev2 fun a z => .inl z
      have np0 : H p = none := by
        rcases ev.free np with z | z
        · exact z
        · exact absurd (mo_fa z) (R2.dom p np).2
      rw [flat_rep]
      refine w p _ _ (ev.trans (.of_same (same_new np)) fun a z => .inl z) (R2.same (same_new np)) np0 upd_same hz ?_
      have e : ([d].flatMap fun x => List.replicate n.toNat x) = List.replicate n.toNat d := by simp
      rw [e, List.map_replicate]
      exact (das_ne np (DAs.replicate q1 n.toNat)).evo (M := fun _ => False) (.of_same (same_new np)) (fun _ _ z => z) fun _ _ _ z => z) w⟩) w⟩⟩
theorem pn_rep {Pa Pb : Prop} {a : List α} {n : Int} (ha : WX X c Γ m e1 (Wp Pa a)) (hb : WX X c Γ m e2 (Wp Pb n)) : WN X c Γ m (.BinOp e1 .Mult e2 pos) (Wp (Pa ∧ Pb ∧ a.length = 1 ∧ -1000000 ≤ n ∧ n ≤ 1000000) (a.flatMap fun x => List.replicate n.toNat x)) :=
  (wn_rep ha hb).imp (fun Q q => ⟨q.1.1, q.1.2.1, q.1.2.2, q.2⟩) mono_wp
/-- sorted(xs), list(xs): new lists -/
def DN1 (r : List V → Hp → VK → Prop) (g : List α → List β) : Prop := ∀ (A : Rgn) (H : Hp) (x : V) (a : List α) (Q : VK), DA A H x (enc a) → (∀ p vs, H p = none → vs.length ≤ sizeLine → DAs A H vs ((g a).map enc) → Q (.ref p) (upd H p (.lst vs))) → r [x] H Q
theorem dn_sortI {K : PySem.W.Frag} : DN1 (rSortedI K) (fun ns : List Int => srt leI ns) := by
  intro A H x a Q hx k
  obtain ⟨l, rfl, r, z⟩ := hx.lstI
  refine ⟨l, a, rfl, SqL.of r, fun ns p pm ps np => ?_⟩
  have e : ns = srt leI a := sorted_uniq leI_anti (ps.imp fun h => by simpa [leI] using h) (srt_srt leI_tot leI_tr a) (pm.trans (srt_perm leI a).symm)
  subst e
  exact k p _ np (by rw [List.length_map, (srt_perm leI a).length_eq]; exact z) (DAs.of_ints _)
theorem dn_sortP {K : PySem.W.Frag} : DN1 (rSortedPO K) (fun ns : List (Int × Int) => srt leP ns) := by
  intro A H x a Q hx k
  obtain ⟨l, vs, rfl, al, r, e1, z, q⟩ := hx.lstL
  refine ⟨l, vs, kH H, rfl, SqL.of r, fun v hv => ?_, fun ys p h1 h2 np => ?_⟩
  · obtain ⟨t, e, h⟩ := (DAs.mem q v hv).tupI
    exact ⟨t, e, h⟩
  · have pm : (ys.map (kH H)).Perm a := by rw [← kH_map q]; exact h2.perm.map _
    have ps : (ys.map (kH H)).Pairwise (fun a b => leP a b = true) := List.pairwise_map.mpr (h1.imp fun h => lexB_le h)
    have e : ys.map (kH H) = srt leP a := sorted_uniq leP_anti ps (srt_srt leP_tot leP_tr a) (pm.trans (srt_perm leP a).symm)
    have hs : DAs A H ys ((srt leP a).map enc) := by
      rw [← e]
      exact kH_back fun v hv => DAs.mem q v (h2.perm.mem_iff.mp hv)
    exact k p _ np (by rw [h2.perm.length_eq, e1]; exact z) hs
theorem dn_list {K : PySem.W.Frag} : DN1 (fun xs H Q => ∃ p ys, xs = [V.ref p] ∧ (SqL K H p ys ∨ SqT K H p ys) ∧ ∀ l, H l = none → Q (.ref l) (upd H l (.lst ys))) (fun xs : List α => xs) := by
  intro A H x a Q hx k
  obtain ⟨l, vs, rfl, al, r, e1, z, q⟩ := hx.lstL
  exact ⟨l, vs, rfl, .inl (SqL.of r), fun p np => k p vs np (e1 ▸ z) q⟩
theorem n1_ok {r : List V → Hp → VK → Prop} {g : List α → List β} (hd : DN1 r g) {Wa : (List α → Prop) → Prop} (ha : WX X c Γ m e Wa) {σ : L2.St} {H : Hp} {Q : VK} (h : tN c Γ m (fun Q => Wa fun a => Q (g a)) σ H Q) : tCB r (tCons (tW c Γ m Wa) tNil) σ H Q := by
  obtain ⟨Z, S, R, w⟩ := h
  refine ⟨Z, S, R, ha.mo _ _ (fun a w v H1 ev1 R1 d1 => ?_) w⟩
  refine hd (Rg c (Mo c Z S) m) H1 v a Q d1 fun p vs np z d => ?_
  have np0 : H p = none := by
    rcases ev1.free np with z | z
    · exact z
    · exact absurd (mo_fa z) (R1.dom p np).2
  exact w p vs _ (ev1.trans (.of_same (same_new np)) fun a z => .inl z) (R1.same (same_new np)) np0 upd_same z ((das_ne np d).evo (M := fun _ => False) (.of_same (same_new np)) (fun _ _ z => z) fun _ _ _ z => z)
theorem wn_b1 {id : String} {r : List V → Hp → VK → Prop} {g : List α → List β} (hc : CallR X (.builtin id) r) (hd : DN1 r g) {Wa : (List α → Prop) → Prop} (hg : Gl X x) (hm : X.mg x = none) (hv : bootBuiltins x = some (.builtin id)) (ha : WX X c Γ m e Wa)
    (hn : x ≠ "__name__" := by decide) (hdb : (x == ("__debug__" : Str)) = false := by decide) (hs : starEach [e] X.env = (false, eval e X.env) :: starEach [] X.env := by rfl) : WN X c Γ m (.Call (.Name x p) [e] [] pos) (fun Q => Wa fun a => Q (g a)) :=
  ⟨fun _ _ k w => ha.mo _ _ (fun a w => k _ w) w, PE.mono (pe_callB hc hg hm hv (pa_cons ha.run pa_nil hs) hn hdb hs rfl) fun σ H Q h => n1_ok hd ha h⟩
theorem wn_ty1 {T : String} {r : List V → Hp → VK → Prop} {g : List α → List β} (hc : CallR X (.type T) r) (hd : DN1 r g) {Wa : (List α → Prop) → Prop} (hg : Gl X x) (hm : X.mg x = none) (hv : bootBuiltins x = some (.type T)) (ha : WX X c Γ m e Wa)
    (hn : x ≠ "__name__" := by decide) (hdb : (x == ("__debug__" : Str)) = false := by decide) (hs : starEach [e] X.env = (false, eval e X.env) :: starEach [] X.env := by rfl) : WN X c Γ m (.Call (.Name x p) [e] [] pos) (fun Q => Wa fun a => Q (g a)) :=
  ⟨fun _ _ k w => ha.mo _ _ (fun a w => k _ w) w, PE.mono (pe_callTy hc hg hm hv (pa_cons ha.run pa_nil hs) hn hdb hs rfl) fun σ H Q h => n1_ok hd ha h⟩
/-- list(xs), read only now, of what holds no lists -/
theorem WX.up {W : (List α → Prop) → Prop} (h : WN X c Γ m' e W) (k : Enc.nl α = true := by rfl) : WN X c Γ m e W :=
  ⟨h.1, PE.mono h.2 fun σ H Q ⟨Z, S, R, w⟩ => ⟨Z, S, R, h.1 _ _ (fun xs q l vs H' ev R' n r z d => by
    have nz : ∀ xs : List α, noLs (xs.map enc) = true := fun xs => by
      induction xs with
      | nil => rfl
      | cons x xs ih => rw [List.map_cons, noLs, Enc.nlok k x, ih]; rfl
    exact q l vs H' ev R' n r z (DAs.noL _ (nz xs) d)) w⟩⟩
theorem wn_up {W : (List α → Prop) → Prop} (h : WN X c Γ m' e W) (k : Enc.nl α = true := by rfl) : WN X c Γ m e W := WX.up h k
/-- what a call gives: a list of what holds no lists, new, as an own one -/
theorem pn_imp {P : Prop} {a : List α} {W : (List α → Prop) → Prop} (h : WN X c Γ m e W) (q : ∀ Q : List α → Prop, P → Q a → W Q) : WN X c Γ m e (Wp P a) := h.imp (fun Q z => q Q z.1 z.2) mono_wp
/-- isinstance: what the types say -/
theorem isi_ty {A : Rgn} {H : Hp} {v : V} {d : PyData} (K : PySem.W.Frag) (h : DA A H v d) : ∃ t, TyX K H v t ∧ t = (match d with
    | .none => .type "NoneType" | .bool _ => .type "bool" | .int _ => .type "int" | .str _ => .type "str" | .list _ => .type "list" | .tuple _ => .type "tuple" | .dict _ => .none) := by
  cases h with
  | non => exact ⟨_, .base .non, rfl⟩
  | bl b => exact ⟨_, .base (.bl b), rfl⟩
  | int i => exact ⟨_, .base (.int i), rfl⟩
  | str x => exact ⟨_, .base (.str x), rfl⟩
  | lst a r z q => exact ⟨_, .base (.lst r), rfl⟩
  | tup r z q => exact ⟨_, .base (.tup r), rfl⟩
end

section
variable {τ0 τ1 τ2 τ3 τ4 τ5 ρ : Type} [Enc τ0] [Enc τ1] [Enc τ2] [Enc τ3] [Enc τ4] [Enc τ5] [Enc ρ]
variable {X : Cx} {c : Cf} {Γ Γ' : List LD} {m m0 m1 m2 m3 m4 m5 : Rk} {e0 e1 e2 e3 e4 e5 : Expr} {pos p : Pos} {n j : Nat} {ps : List Str} {x y : Str} {py : Pos}
theorem wx_d0 {s : (ρ → Prop) → Prop}  (C : Cl X.prog X.w X.K X.mg X.base x j ps (sf0 s)) (hr : Room n X.A) (ms : Mono (s))  (i : Nat) (hΓ : Γ[i]? = some .fd := by rfl) (hN : X.N[i]? = some y := by rfl) (hv : Vis X.env.scope y := by first | exact Or.inl rfl | exact Or.inr (Or.inl rfl) | exact Or.inr (Or.inr rfl)) (hd1 : (y == ("__debug__" : Str)) = false := by decide) (hcd : (y == ("__classdict__" : Str)) = false := by decide) (hj : j ≤ n := by decide) (hg : Gl X x := by rfl)  (sf : starEach [.Name y py] X.env = (false, eval (.Name y py) X.env) :: starEach [] X.env := by rfl) (hdb : (x == ("__debug__" : Str)) = false := by decide) (hpl : (backTo pos (starEach [] X.env)).any (·.1) = false := by rfl) :
    WX X c Γ m (.Call (.Name x p) [.Name y py] [] pos) (fun Q => s Q) := by
  obtain ⟨f, fd, q1, q2, q3, q4⟩ := C
  exact wx_g0 q4 (hr.mono hj) hg q1 q2 q3 ms  i hΓ hN hv hd1 hcd  sf hdb hpl
theorem wx_c1 {s : τ0 → (ρ → Prop) → Prop} {W0 : (τ0 → Prop) → Prop} (C : Cl X.prog X.w X.K X.mg X.base x j ps (sp1 s)) (hr : Room n X.A) (ms : ∀ a0, Mono (s a0)) (h0 : WX X c Γ m0 e0 W0) (hj : j ≤ n := by decide) (hg : Gl X x := by rfl) (s0 : starEach [e0] X.env = (false, eval e0 X.env) :: starEach [] X.env := by rfl) (hdb : (x == ("__debug__" : Str)) = false := by decide) (hpl : (backTo pos (starEach [] X.env)).any (·.1) = false := by rfl) :
    WX X c Γ m (.Call (.Name x p) [e0] [] pos) (fun Q => W0 fun a0 => s a0 Q) := by
  obtain ⟨f, fd, q1, q2, q3, q4⟩ := C
  exact wx_f1 q4 (hr.mono hj) hg q1 q2 q3 ms h0 s0 hdb hpl
theorem px_c1 {P : τ0 → Prop} {g : τ0 → ρ} {P0 : Prop} {a0 : τ0} (C : Cl X.prog X.w X.K X.mg X.base x j ps (sp1 fun a0 => Wp (P a0) (g a0))) (hr : Room n X.A) (h0 : WX X c Γ m0 e0 (Wp P0 a0)) (hj : j ≤ n := by decide) (hg : Gl X x := by rfl) (s0 : starEach [e0] X.env = (false, eval e0 X.env) :: starEach [] X.env := by rfl) (hdb : (x == ("__debug__" : Str)) = false := by decide) (hpl : (backTo pos (starEach [] X.env)).any (·.1) = false := by rfl) :
    WX X c Γ m (.Call (.Name x p) [e0] [] pos) (Wp (P0 ∧ P a0) (g a0)) := by
  obtain ⟨f, fd, q1, q2, q3, q4⟩ := C
  exact px_f1 q4 (hr.mono hj) hg q1 q2 q3 h0 s0 hdb hpl
theorem wx_d1 {s : τ0 → (ρ → Prop) → Prop} {W0 : (τ0 → Prop) → Prop} (C : Cl X.prog X.w X.K X.mg X.base x j ps (sf1 s)) (hr : Room n X.A) (ms : ∀ a0, Mono (s a0)) (h0 : WX X c Γ m0 e0 W0) (i : Nat) (hΓ : Γ[i]? = some .fd := by rfl) (hN : X.N[i]? = some y := by rfl) (hv : Vis X.env.scope y := by first | exact Or.inl rfl | exact Or.inr (Or.inl rfl) | exact Or.inr (Or.inr rfl)) (hd1 : (y == ("__debug__" : Str)) = false := by decide) (hcd : (y == ("__classdict__" : Str)) = false := by decide) (hj : j ≤ n := by decide) (hg : Gl X x := by rfl) (s0 : starEach [e0] X.env = (false, eval e0 X.env) :: starEach [] X.env := by rfl) (sf : starEach [.Name y py, e0] X.env = (false, eval (.Name y py) X.env) :: starEach [e0] X.env := by rfl) (hdb : (x == ("__debug__" : Str)) = false := by decide) (hpl : (backTo pos (starEach [e0] X.env)).any (·.1) = false := by rfl) :
    WX X c Γ m (.Call (.Name x p) [.Name y py, e0] [] pos) (fun Q => W0 fun a0 => s a0 Q) := by
  obtain ⟨f, fd, q1, q2, q3, q4⟩ := C
  exact wx_g1 q4 (hr.mono hj) hg q1 q2 q3 ms h0 i hΓ hN hv hd1 hcd s0 sf hdb hpl
theorem wx_c2 {s : τ0 → τ1 → (ρ → Prop) → Prop} {W0 : (τ0 → Prop) → Prop} {W1 : (τ1 → Prop) → Prop} (C : Cl X.prog X.w X.K X.mg X.base x j ps (sp2 s)) (hr : Room n X.A) (ms : ∀ a0 a1, Mono (s a0 a1)) (h0 : WX X c Γ m0 e0 W0) (h1 : WX X c Γ m1 e1 W1) (hj : j ≤ n := by decide) (hg : Gl X x := by rfl) (s0 : starEach [e0, e1] X.env = (false, eval e0 X.env) :: starEach [e1] X.env := by rfl) (s1 : starEach [e1] X.env = (false, eval e1 X.env) :: starEach [] X.env := by rfl) (hdb : (x == ("__debug__" : Str)) = false := by decide) (hpl : (backTo pos (starEach [e1] X.env)).any (·.1) = false := by rfl) :
    WX X c Γ m (.Call (.Name x p) [e0, e1] [] pos) (fun Q => W0 fun a0 => W1 fun a1 => s a0 a1 Q) := by
  obtain ⟨f, fd, q1, q2, q3, q4⟩ := C
  exact wx_f2 q4 (hr.mono hj) hg q1 q2 q3 ms h0 h1 s0 s1 hdb hpl
theorem px_c2 {P : τ0 → τ1 → Prop} {g : τ0 → τ1 → ρ} {P0 : Prop} {a0 : τ0} {P1 : Prop} {a1 : τ1} (C : Cl X.prog X.w X.K X.mg X.base x j ps (sp2 fun a0 a1 => Wp (P a0 a1) (g a0 a1))) (hr : Room n X.A) (h0 : WX X c Γ m0 e0 (Wp P0 a0)) (h1 : WX X c Γ m1 e1 (Wp P1 a1)) (hj : j ≤ n := by decide) (hg : Gl X x := by rfl) (s0 : starEach [e0, e1] X.env = (false, eval e0 X.env) :: starEach [e1] X.env := by rfl) (s1 : starEach [e1] X.env = (false, eval e1 X.env) :: starEach [] X.env := by rfl) (hdb : (x == ("__debug__" : Str)) = false := by decide) (hpl : (backTo pos (starEach [e1] X.env)).any (·.1) = false := by rfl) :
    WX X c Γ m (.Call (.Name x p) [e0, e1] [] pos) (Wp (P0 ∧ P1 ∧ P a0 a1) (g a0 a1)) := by
  obtain ⟨f, fd, q1, q2, q3, q4⟩ := C
  exact px_f2 q4 (hr.mono hj) hg q1 q2 q3 h0 h1 s0 s1 hdb hpl
theorem wx_d2 {s : τ0 → τ1 → (ρ → Prop) → Prop} {W0 : (τ0 → Prop) → Prop} {W1 : (τ1 → Prop) → Prop} (C : Cl X.prog X.w X.K X.mg X.base x j ps (sf2 s)) (hr : Room n X.A) (ms : ∀ a0 a1, Mono (s a0 a1)) (h0 : WX X c Γ m0 e0 W0) (h1 : WX X c Γ m1 e1 W1) (i : Nat) (hΓ : Γ[i]? = some .fd := by rfl) (hN : X.N[i]? = some y := by rfl) (hv : Vis X.env.scope y := by first | exact Or.inl rfl | exact Or.inr (Or.inl rfl) | exact Or.inr (Or.inr rfl)) (hd1 : (y == ("__debug__" : Str)) = false := by decide) (hcd : (y == ("__classdict__" : Str)) = false := by decide) (hj : j ≤ n := by decide) (hg : Gl X x := by rfl) (s0 : starEach [e0, e1] X.env = (false, eval e0 X.env) :: starEach [e1] X.env := by rfl) (s1 : starEach [e1] X.env = (false, eval e1 X.env) :: starEach [] X.env := by rfl) (sf : starEach [.Name y py, e0, e1] X.env = (false, eval (.Name y py) X.env) :: starEach [e0, e1] X.env := by rfl) (hdb : (x == ("__debug__" : Str)) = false := by decide) (hpl : (backTo pos (starEach [e0, e1] X.env)).any (·.1) = false := by rfl) :
    WX X c Γ m (.Call (.Name x p) [.Name y py, e0, e1] [] pos) (fun Q => W0 fun a0 => W1 fun a1 => s a0 a1 Q) := by
  obtain ⟨f, fd, q1, q2, q3, q4⟩ := C
  exact wx_g2 q4 (hr.mono hj) hg q1 q2 q3 ms h0 h1 i hΓ hN hv hd1 hcd s0 s1 sf hdb hpl
theorem wx_c3 {s : τ0 → τ1 → τ2 → (ρ → Prop) → Prop} {W0 : (τ0 → Prop) → Prop} {W1 : (τ1 → Prop) → Prop} {W2 : (τ2 → Prop) → Prop} (C : Cl X.prog X.w X.K X.mg X.base x j ps (sp3 s)) (hr : Room n X.A) (ms : ∀ a0 a1 a2, Mono (s a0 a1 a2)) (h0 : WX X c Γ m0 e0 W0) (h1 : WX X c Γ m1 e1 W1) (h2 : WX X c Γ m2 e2 W2) (hj : j ≤ n := by decide) (hg : Gl X x := by rfl) (s0 : starEach [e0, e1, e2] X.env = (false, eval e0 X.env) :: starEach [e1, e2] X.env := by rfl) (s1 : starEach [e1, e2] X.env = (false, eval e1 X.env) :: starEach [e2] X.env := by rfl) (s2 : starEach [e2] X.env = (false, eval e2 X.env) :: starEach [] X.env := by rfl) (hdb : (x == ("__debug__" : Str)) = false := by decide) (hpl : (backTo pos (starEach [e1, e2] X.env)).any (·.1) = false := by rfl) :
    WX X c Γ m (.Call (.Name x p) [e0, e1, e2] [] pos) (fun Q => W0 fun a0 => W1 fun a1 => W2 fun a2 => s a0 a1 a2 Q) := by
  obtain ⟨f, fd, q1, q2, q3, q4⟩ := C
  exact wx_f3 q4 (hr.mono hj) hg q1 q2 q3 ms h0 h1 h2 s0 s1 s2 hdb hpl
theorem px_c3 {P : τ0 → τ1 → τ2 → Prop} {g : τ0 → τ1 → τ2 → ρ} {P0 : Prop} {a0 : τ0} {P1 : Prop} {a1 : τ1} {P2 : Prop} {a2 : τ2} (C : Cl X.prog X.w X.K X.mg X.base x j ps (sp3 fun a0 a1 a2 => Wp (P a0 a1 a2) (g a0 a1 a2))) (hr : Room n X.A) (h0 : WX X c Γ m0 e0 (Wp P0 a0)) (h1 : WX X c Γ m1 e1 (Wp P1 a1)) (h2 : WX X c Γ m2 e2 (Wp P2 a2)) (hj : j ≤ n := by decide) (hg : Gl X x := by rfl) (s0 : starEach [e0, e1, e2] X.env = (false, eval e0 X.env) :: starEach [e1, e2] X.env := by rfl) (s1 : starEach [e1, e2] X.env = (false, eval e1 X.env) :: starEach [e2] X.env := by rfl) (s2 : starEach [e2] X.env = (false, eval e2 X.env) :: starEach [] X.env := by rfl) (hdb : (x == ("__debug__" : Str)) = false := by decide) (hpl : (backTo pos (starEach [e1, e2] X.env)).any (·.1) = false := by rfl) :
    WX X c Γ m (.Call (.Name x p) [e0, e1, e2] [] pos) (Wp (P0 ∧ P1 ∧ P2 ∧ P a0 a1 a2) (g a0 a1 a2)) := by
  obtain ⟨f, fd, q1, q2, q3, q4⟩ := C
  exact px_f3 q4 (hr.mono hj) hg q1 q2 q3 h0 h1 h2 s0 s1 s2 hdb hpl
theorem wx_d3 {s : τ0 → τ1 → τ2 → (ρ → Prop) → Prop} {W0 : (τ0 → Prop) → Prop} {W1 : (τ1 → Prop) → Prop} {W2 : (τ2 → Prop) → Prop} (C : Cl X.prog X.w X.K X.mg X.base x j ps (sf3 s)) (hr : Room n X.A) (ms : ∀ a0 a1 a2, Mono (s a0 a1 a2)) (h0 : WX X c Γ m0 e0 W0) (h1 : WX X c Γ m1 e1 W1) (h2 : WX X c Γ m2 e2 W2) (i : Nat) (hΓ : Γ[i]? = some .fd := by rfl) (hN : X.N[i]? = some y := by rfl) (hv : Vis X.env.scope y := by first | exact Or.inl rfl | exact Or.inr (Or.inl rfl) | exact Or.inr (Or.inr rfl)) (hd1 : (y == ("__debug__" : Str)) = false := by decide) (hcd : (y == ("__classdict__" : Str)) = false := by decide) (hj : j ≤ n := by decide) (hg : Gl X x := by rfl) (s0 : starEach [e0, e1, e2] X.env = (false, eval e0 X.env) :: starEach [e1, e2] X.env := by rfl) (s1 : starEach [e1, e2] X.env = (false, eval e1 X.env) :: starEach [e2] X.env := by rfl) (s2 : starEach [e2] X.env = (false, eval e2 X.env) :: starEach [] X.env := by rfl) (sf : starEach [.Name y py, e0, e1, e2] X.env = (false, eval (.Name y py) X.env) :: starEach [e0, e1, e2] X.env := by rfl) (hdb : (x == ("__debug__" : Str)) = false := by decide) (hpl : (backTo pos (starEach [e0, e1, e2] X.env)).any (·.1) = false := by rfl) :
    WX X c Γ m (.Call (.Name x p) [.Name y py, e0, e1, e2] [] pos) (fun Q => W0 fun a0 => W1 fun a1 => W2 fun a2 => s a0 a1 a2 Q) := by
  obtain ⟨f, fd, q1, q2, q3, q4⟩ := C
  exact wx_g3 q4 (hr.mono hj) hg q1 q2 q3 ms h0 h1 h2 i hΓ hN hv hd1 hcd s0 s1 s2 sf hdb hpl
theorem wx_c4 {s : τ0 → τ1 → τ2 → τ3 → (ρ → Prop) → Prop} {W0 : (τ0 → Prop) → Prop} {W1 : (τ1 → Prop) → Prop} {W2 : (τ2 → Prop) → Prop} {W3 : (τ3 → Prop) → Prop} (C : Cl X.prog X.w X.K X.mg X.base x j ps (sp4 s)) (hr : Room n X.A) (ms : ∀ a0 a1 a2 a3, Mono (s a0 a1 a2 a3)) (h0 : WX X c Γ m0 e0 W0) (h1 : WX X c Γ m1 e1 W1) (h2 : WX X c Γ m2 e2 W2) (h3 : WX X c Γ m3 e3 W3) (hj : j ≤ n := by decide) (hg : Gl X x := by rfl) (s0 : starEach [e0, e1, e2, e3] X.env = (false, eval e0 X.env) :: starEach [e1, e2, e3] X.env := by rfl) (s1 : starEach [e1, e2, e3] X.env = (false, eval e1 X.env) :: starEach [e2, e3] X.env := by rfl) (s2 : starEach [e2, e3] X.env = (false, eval e2 X.env) :: starEach [e3] X.env := by rfl) (s3 : starEach [e3] X.env = (false, eval e3 X.env) :: starEach [] X.env := by rfl) (hdb : (x == ("__debug__" : Str)) = false := by decide) (hpl : (backTo pos (starEach [e1, e2, e3] X.env)).any (·.1) = false := by rfl) :
    WX X c Γ m (.Call (.Name x p) [e0, e1, e2, e3] [] pos) (fun Q => W0 fun a0 => W1 fun a1 => W2 fun a2 => W3 fun a3 => s a0 a1 a2 a3 Q) := by
  obtain ⟨f, fd, q1, q2, q3, q4⟩ := C
  exact wx_f4 q4 (hr.mono hj) hg q1 q2 q3 ms h0 h1 h2 h3 s0 s1 s2 s3 hdb hpl
theorem px_c4 {P : τ0 → τ1 → τ2 → τ3 → Prop} {g : τ0 → τ1 → τ2 → τ3 → ρ} {P0 : Prop} {a0 : τ0} {P1 : Prop} {a1 : τ1} {P2 : Prop} {a2 : τ2} {P3 : Prop} {a3 : τ3} (C : Cl X.prog X.w X.K X.mg X.base x j ps (sp4 fun a0 a1 a2 a3 => Wp (P a0 a1 a2 a3) (g a0 a1 a2 a3))) (hr : Room n X.A) (h0 : WX X c Γ m0 e0 (Wp P0 a0)) (h1 : WX X c Γ m1 e1 (Wp P1 a1)) (h2 : WX X c Γ m2 e2 (Wp P2 a2)) (h3 : WX X c Γ m3 e3 (Wp P3 a3)) (hj : j ≤ n := by decide) (hg : Gl X x := by rfl) (s0 : starEach [e0, e1, e2, e3] X.env = (false, eval e0 X.env) :: starEach [e1, e2, e3] X.env := by rfl) (s1 : starEach [e1, e2, e3] X.env = (false, eval e1 X.env) :: starEach [e2, e3] X.env := by rfl) (s2 : starEach [e2, e3] X.env = (false, eval e2 X.env) :: starEach [e3] X.env := by rfl) (s3 : starEach [e3] X.env = (false, eval e3 X.env) :: starEach [] X.env := by rfl) (hdb : (x == ("__debug__" : Str)) = false := by decide) (hpl : (backTo pos (starEach [e1, e2, e3] X.env)).any (·.1) = false := by rfl) :
    WX X c Γ m (.Call (.Name x p) [e0, e1, e2, e3] [] pos) (Wp (P0 ∧ P1 ∧ P2 ∧ P3 ∧ P a0 a1 a2 a3) (g a0 a1 a2 a3)) := by
  obtain ⟨f, fd, q1, q2, q3, q4⟩ := C
  exact px_f4 q4 (hr.mono hj) hg q1 q2 q3 h0 h1 h2 h3 s0 s1 s2 s3 hdb hpl
theorem wx_d4 {s : τ0 → τ1 → τ2 → τ3 → (ρ → Prop) → Prop} {W0 : (τ0 → Prop) → Prop} {W1 : (τ1 → Prop) → Prop} {W2 : (τ2 → Prop) → Prop} {W3 : (τ3 → Prop) → Prop} (C : Cl X.prog X.w X.K X.mg X.base x j ps (sf4 s)) (hr : Room n X.A) (ms : ∀ a0 a1 a2 a3, Mono (s a0 a1 a2 a3)) (h0 : WX X c Γ m0 e0 W0) (h1 : WX X c Γ m1 e1 W1) (h2 : WX X c Γ m2 e2 W2) (h3 : WX X c Γ m3 e3 W3) (i : Nat) (hΓ : Γ[i]? = some .fd := by rfl) (hN : X.N[i]? = some y := by rfl) (hv : Vis X.env.scope y := by first | exact Or.inl rfl | exact Or.inr (Or.inl rfl) | exact Or.inr (Or.inr rfl)) (hd1 : (y == ("__debug__" : Str)) = false := by decide) (hcd : (y == ("__classdict__" : Str)) = false := by decide) (hj : j ≤ n := by decide) (hg : Gl X x := by rfl) (s0 : starEach [e0, e1, e2, e3] X.env = (false, eval e0 X.env) :: starEach [e1, e2, e3] X.env := by rfl) (s1 : starEach [e1, e2, e3] X.env = (false, eval e1 X.env) :: starEach [e2, e3] X.env := by rfl) (s2 : starEach [e2, e3] X.env = (false, eval e2 X.env) :: starEach [e3] X.env := by rfl) (s3 : starEach [e3] X.env = (false, eval e3 X.env) :: starEach [] X.env := by rfl) (sf : starEach [.Name y py, e0, e1, e2, e3] X.env = (false, eval (.Name y py) X.env) :: starEach [e0, e1, e2, e3] X.env := by rfl) (hdb : (x == ("__debug__" : Str)) = false := by decide) (hpl : (backTo pos (starEach [e0, e1, e2, e3] X.env)).any (·.1) = false := by rfl) :
    WX X c Γ m (.Call (.Name x p) [.Name y py, e0, e1, e2, e3] [] pos) (fun Q => W0 fun a0 => W1 fun a1 => W2 fun a2 => W3 fun a3 => s a0 a1 a2 a3 Q) := by
  obtain ⟨f, fd, q1, q2, q3, q4⟩ := C
  exact wx_g4 q4 (hr.mono hj) hg q1 q2 q3 ms h0 h1 h2 h3 i hΓ hN hv hd1 hcd s0 s1 s2 s3 sf hdb hpl
theorem wx_c5 {s : τ0 → τ1 → τ2 → τ3 → τ4 → (ρ → Prop) → Prop} {W0 : (τ0 → Prop) → Prop} {W1 : (τ1 → Prop) → Prop} {W2 : (τ2 → Prop) → Prop} {W3 : (τ3 → Prop) → Prop} {W4 : (τ4 → Prop) → Prop} (C : Cl X.prog X.w X.K X.mg X.base x j ps (sp5 s)) (hr : Room n X.A) (ms : ∀ a0 a1 a2 a3 a4, Mono (s a0 a1 a2 a3 a4)) (h0 : WX X c Γ m0 e0 W0) (h1 : WX X c Γ m1 e1 W1) (h2 : WX X c Γ m2 e2 W2) (h3 : WX X c Γ m3 e3 W3) (h4 : WX X c Γ m4 e4 W4) (hj : j ≤ n := by decide) (hg : Gl X x := by rfl) (s0 : starEach [e0, e1, e2, e3, e4] X.env = (false, eval e0 X.env) :: starEach [e1, e2, e3, e4] X.env := by rfl) (s1 : starEach [e1, e2, e3, e4] X.env = (false, eval e1 X.env) :: starEach [e2, e3, e4] X.env := by rfl) (s2 : starEach [e2, e3, e4] X.env = (false, eval e2 X.env) :: starEach [e3, e4] X.env := by rfl) (s3 : starEach [e3, e4] X.env = (false, eval e3 X.env) :: starEach [e4] X.env := by rfl) (s4 : starEach [e4] X.env = (false, eval e4 X.env) :: starEach [] X.env := by rfl) (hdb : (x == ("__debug__" : Str)) = false := by decide) (hpl : (backTo pos (starEach [e1, e2, e3, e4] X.env)).any (·.1) = false := by rfl) :
    WX X c Γ m (.Call (.Name x p) [e0, e1, e2, e3, e4] [] pos) (fun Q => W0 fun a0 => W1 fun a1 => W2 fun a2 => W3 fun a3 => W4 fun a4 => s a0 a1 a2 a3 a4 Q) := by
  obtain ⟨f, fd, q1, q2, q3, q4⟩ := C
  exact wx_f5 q4 (hr.mono hj) hg q1 q2 q3 ms h0 h1 h2 h3 h4 s0 s1 s2 s3 s4 hdb hpl
theorem px_c5 {P : τ0 → τ1 → τ2 → τ3 → τ4 → Prop} {g : τ0 → τ1 → τ2 → τ3 → τ4 → ρ} {P0 : Prop} {a0 : τ0} {P1 : Prop} {a1 : τ1} {P2 : Prop} {a2 : τ2} {P3 : Prop} {a3 : τ3} {P4 : Prop} {a4 : τ4} (C : Cl X.prog X.w X.K X.mg X.base x j ps (sp5 fun a0 a1 a2 a3 a4 => Wp (P a0 a1 a2 a3 a4) (g a0 a1 a2 a3 a4))) (hr : Room n X.A) (h0 : WX X c Γ m0 e0 (Wp P0 a0)) (h1 : WX X c Γ m1 e1 (Wp P1 a1)) (h2 : WX X c Γ m2 e2 (Wp P2 a2)) (h3 : WX X c Γ m3 e3 (Wp P3 a3)) (h4 : WX X c Γ m4 e4 (Wp P4 a4)) (hj : j ≤ n := by decide) (hg : Gl X x := by rfl) (s0 : starEach [e0, e1, e2, e3, e4] X.env = (false, eval e0 X.env) :: starEach [e1, e2, e3, e4] X.env := by rfl) (s1 : starEach [e1, e2, e3, e4] X.env = (false, eval e1 X.env) :: starEach [e2, e3, e4] X.env := by rfl) (s2 : starEach [e2, e3, e4] X.env = (false, eval e2 X.env) :: starEach [e3, e4] X.env := by rfl) (s3 : starEach [e3, e4] X.env = (false, eval e3 X.env) :: starEach [e4] X.env := by rfl) (s4 : starEach [e4] X.env = (false, eval e4 X.env) :: starEach [] X.env := by rfl) (hdb : (x == ("__debug__" : Str)) = false := by decide) (hpl : (backTo pos (starEach [e1, e2, e3, e4] X.env)).any (·.1) = false := by rfl) :
    WX X c Γ m (.Call (.Name x p) [e0, e1, e2, e3, e4] [] pos) (Wp (P0 ∧ P1 ∧ P2 ∧ P3 ∧ P4 ∧ P a0 a1 a2 a3 a4) (g a0 a1 a2 a3 a4)) := by
  obtain ⟨f, fd, q1, q2, q3, q4⟩ := C
  exact px_f5 q4 (hr.mono hj) hg q1 q2 q3 h0 h1 h2 h3 h4 s0 s1 s2 s3 s4 hdb hpl
theorem wx_d5 {s : τ0 → τ1 → τ2 → τ3 → τ4 → (ρ → Prop) → Prop} {W0 : (τ0 → Prop) → Prop} {W1 : (τ1 → Prop) → Prop} {W2 : (τ2 → Prop) → Prop} {W3 : (τ3 → Prop) → Prop} {W4 : (τ4 → Prop) → Prop} (C : Cl X.prog X.w X.K X.mg X.base x j ps (sf5 s)) (hr : Room n X.A) (ms : ∀ a0 a1 a2 a3 a4, Mono (s a0 a1 a2 a3 a4)) (h0 : WX X c Γ m0 e0 W0) (h1 : WX X c Γ m1 e1 W1) (h2 : WX X c Γ m2 e2 W2) (h3 : WX X c Γ m3 e3 W3) (h4 : WX X c Γ m4 e4 W4) (i : Nat) (hΓ : Γ[i]? = some .fd := by rfl) (hN : X.N[i]? = some y := by rfl) (hv : Vis X.env.scope y := by first | exact Or.inl rfl | exact Or.inr (Or.inl rfl) | exact Or.inr (Or.inr rfl)) (hd1 : (y == ("__debug__" : Str)) = false := by decide) (hcd : (y == ("__classdict__" : Str)) = false := by decide) (hj : j ≤ n := by decide) (hg : Gl X x := by rfl) (s0 : starEach [e0, e1, e2, e3, e4] X.env = (false, eval e0 X.env) :: starEach [e1, e2, e3, e4] X.env := by rfl) (s1 : starEach [e1, e2, e3, e4] X.env = (false, eval e1 X.env) :: starEach [e2, e3, e4] X.env := by rfl) (s2 : starEach [e2, e3, e4] X.env = (false, eval e2 X.env) :: starEach [e3, e4] X.env := by rfl) (s3 : starEach [e3, e4] X.env = (false, eval e3 X.env) :: starEach [e4] X.env := by rfl) (s4 : starEach [e4] X.env = (false, eval e4 X.env) :: starEach [] X.env := by rfl) (sf : starEach [.Name y py, e0, e1, e2, e3, e4] X.env = (false, eval (.Name y py) X.env) :: starEach [e0, e1, e2, e3, e4] X.env := by rfl) (hdb : (x == ("__debug__" : Str)) = false := by decide) (hpl : (backTo pos (starEach [e0, e1, e2, e3, e4] X.env)).any (·.1) = false := by rfl) :
    WX X c Γ m (.Call (.Name x p) [.Name y py, e0, e1, e2, e3, e4] [] pos) (fun Q => W0 fun a0 => W1 fun a1 => W2 fun a2 => W3 fun a3 => W4 fun a4 => s a0 a1 a2 a3 a4 Q) := by
  obtain ⟨f, fd, q1, q2, q3, q4⟩ := C
  exact wx_g5 q4 (hr.mono hj) hg q1 q2 q3 ms h0 h1 h2 h3 h4 i hΓ hN hv hd1 hcd s0 s1 s2 s3 s4 sf hdb hpl
theorem wx_c6 {s : τ0 → τ1 → τ2 → τ3 → τ4 → τ5 → (ρ → Prop) → Prop} {W0 : (τ0 → Prop) → Prop} {W1 : (τ1 → Prop) → Prop} {W2 : (τ2 → Prop) → Prop} {W3 : (τ3 → Prop) → Prop} {W4 : (τ4 → Prop) → Prop} {W5 : (τ5 → Prop) → Prop} (C : Cl X.prog X.w X.K X.mg X.base x j ps (sp6 s)) (hr : Room n X.A) (ms : ∀ a0 a1 a2 a3 a4 a5, Mono (s a0 a1 a2 a3 a4 a5)) (h0 : WX X c Γ m0 e0 W0) (h1 : WX X c Γ m1 e1 W1) (h2 : WX X c Γ m2 e2 W2) (h3 : WX X c Γ m3 e3 W3) (h4 : WX X c Γ m4 e4 W4) (h5 : WX X c Γ m5 e5 W5) (hj : j ≤ n := by decide) (hg : Gl X x := by rfl) (s0 : starEach [e0, e1, e2, e3, e4, e5] X.env = (false, eval e0 X.env) :: starEach [e1, e2, e3, e4, e5] X.env := by rfl) (s1 : starEach [e1, e2, e3, e4, e5] X.env = (false, eval e1 X.env) :: starEach [e2, e3, e4, e5] X.env := by rfl) (s2 : starEach [e2, e3, e4, e5] X.env = (false, eval e2 X.env) :: starEach [e3, e4, e5] X.env := by rfl) (s3 : starEach [e3, e4, e5] X.env = (false, eval e3 X.env) :: starEach [e4, e5] X.env := by rfl) (s4 : starEach [e4, e5] X.env = (false, eval e4 X.env) :: starEach [e5] X.env := by rfl) (s5 : starEach [e5] X.env = (false, eval e5 X.env) :: starEach [] X.env := by rfl) (hdb : (x == ("__debug__" : Str)) = false := by decide) (hpl : (backTo pos (starEach [e1, e2, e3, e4, e5] X.env)).any (·.1) = false := by rfl) :
    WX X c Γ m (.Call (.Name x p) [e0, e1, e2, e3, e4, e5] [] pos) (fun Q => W0 fun a0 => W1 fun a1 => W2 fun a2 => W3 fun a3 => W4 fun a4 => W5 fun a5 => s a0 a1 a2 a3 a4 a5 Q) := by
  obtain ⟨f, fd, q1, q2, q3, q4⟩ := C
  exact wx_f6 q4 (hr.mono hj) hg q1 q2 q3 ms h0 h1 h2 h3 h4 h5 s0 s1 s2 s3 s4 s5 hdb hpl
theorem px_c6 {P : τ0 → τ1 → τ2 → τ3 → τ4 → τ5 → Prop} {g : τ0 → τ1 → τ2 → τ3 → τ4 → τ5 → ρ} {P0 : Prop} {a0 : τ0} {P1 : Prop} {a1 : τ1} {P2 : Prop} {a2 : τ2} {P3 : Prop} {a3 : τ3} {P4 : Prop} {a4 : τ4} {P5 : Prop} {a5 : τ5} (C : Cl X.prog X.w X.K X.mg X.base x j ps (sp6 fun a0 a1 a2 a3 a4 a5 => Wp (P a0 a1 a2 a3 a4 a5) (g a0 a1 a2 a3 a4 a5))) (hr : Room n X.A) (h0 : WX X c Γ m0 e0 (Wp P0 a0)) (h1 : WX X c Γ m1 e1 (Wp P1 a1)) (h2 : WX X c Γ m2 e2 (Wp P2 a2)) (h3 : WX X c Γ m3 e3 (Wp P3 a3)) (h4 : WX X c Γ m4 e4 (Wp P4 a4)) (h5 : WX X c Γ m5 e5 (Wp P5 a5)) (hj : j ≤ n := by decide) (hg : Gl X x := by rfl) (s0 : starEach [e0, e1, e2, e3, e4, e5] X.env = (false, eval e0 X.env) :: starEach [e1, e2, e3, e4, e5] X.env := by rfl) (s1 : starEach [e1, e2, e3, e4, e5] X.env = (false, eval e1 X.env) :: starEach [e2, e3, e4, e5] X.env := by rfl) (s2 : starEach [e2, e3, e4, e5] X.env = (false, eval e2 X.env) :: starEach [e3, e4, e5] X.env := by rfl) (s3 : starEach [e3, e4, e5] X.env = (false, eval e3 X.env) :: starEach [e4, e5] X.env := by rfl) (s4 : starEach [e4, e5] X.env = (false, eval e4 X.env) :: starEach [e5] X.env := by rfl) (s5 : starEach [e5] X.env = (false, eval e5 X.env) :: starEach [] X.env := by rfl) (hdb : (x == ("__debug__" : Str)) = false := by decide) (hpl : (backTo pos (starEach [e1, e2, e3, e4, e5] X.env)).any (·.1) = false := by rfl) :
    WX X c Γ m (.Call (.Name x p) [e0, e1, e2, e3, e4, e5] [] pos) (Wp (P0 ∧ P1 ∧ P2 ∧ P3 ∧ P4 ∧ P5 ∧ P a0 a1 a2 a3 a4 a5) (g a0 a1 a2 a3 a4 a5)) := by
  obtain ⟨f, fd, q1, q2, q3, q4⟩ := C
  exact px_f6 q4 (hr.mono hj) hg q1 q2 q3 h0 h1 h2 h3 h4 h5 s0 s1 s2 s3 s4 s5 hdb hpl
end
section
variable {τ0 τ1 τ2 τ3 τ4 τ5 ρ ς : Type} [Enc τ0] [Enc τ1] [Enc τ2] [Enc τ3] [Enc τ4] [Enc τ5] [Enc ρ]
variable {P : Program} {w : World} {K : PySem.W.Frag} {mg : Str → Option Value} {base : Heap} {x : Str} {st : Stmt} {N ps : List Str} {k : Nat} {G : ς → List LD}
def BindsN (st : Stmt) (x : Str) (ps : List Str) : Prop := ∀ (kV doc pm : Value) (an : Option Addr) (cdv ct : Value) (us : List Value), us.length = ps.length → bindArgs (PySem.W.fnOf x x (defArgs st) (defBody st) (defScope st) .none kV doc pm an cdv ct) ⟨us, []⟩ = pure (ps.zip us)
theorem mkCl {sp : Sp} (D : Df K mg x st) (hb : BindsN st x ps) (h : ∀ f fd, Fun K x x st f fd → FnOk P w K mg base CX0 k f fd ps sp) : Cl P w K mg base x k ps sp := by
  obtain ⟨f, fd, F, hm⟩ := D.h
  exact ⟨f, fd, hm, F.kp, F.binds hb, h f fd F⟩
end
end DL
namespace DL
open PySem PySem.Spec PyProof.Rows L2
open Enc (enc)
section
variable {α β γ δ ρ ς ς1 : Type} [Enc α] [Enc β] [Enc γ] [Enc δ] [Enc ρ]
variable {X : Cx} {c : Cf} {Γ Γ' : List LD} {m m' m1 m2 rm : Rk} {e e1 e2 e3 e4 tg : Expr} {es : List Expr} {pos p p2 p3 px apos cpos : Pos} {k k1 : Bool} {x y : Str}
/-- a op b op' c -/
theorem wx_chain {op op' : CmpOp} {r r' : R2} {C : α → β → Prop} {g : α → β → Bool} {C' : β → γ → Prop} {g' : β → γ → Bool} (ho : OpR X (compareOp op) r) (hd : DOp r C g) (ho' : OpR X (compareOp op') r') (hd' : DOp r' C' g') {Wa : (α → Prop) → Prop} {Wb : (β → Prop) → Prop} {Wc : (γ → Prop) → Prop}
    (ha : WX X c Γ .any e1 Wa) (hb : WX X c Γ .any e2 Wb) (hc : WX X c Γ .any e3 Wc) (hm : lastMarks [op, op'] [e2, e3] = false := by with_unfolding_all rfl) :
    WX X c Γ m (.Compare e1 [op, op'] [e2, e3] pos) (fun Q => Wa fun a => Wb fun b => C a b ∧ if g a b = true then Wc fun d => C' b d ∧ Q (g' b d) else Q false) :=
  WX.nl (m' := .any) ⟨fun Q Q' k w => ha.mo _ _ (fun a w => hb.mo _ _ (fun b w => ⟨w.1, by
    have w2 := w.2
    by_cases h : g a b = true
    · rw [if_pos h] at w2 ⊢
      exact hc.mo _ _ (fun d w => ⟨w.1, k _ w.2⟩) w2
    · rw [if_neg h] at w2 ⊢
      exact k _ w2⟩) w) w, PE.mono (pe_chain ho ho' ha.run hb.run hc.run hm) fun σ H Q ⟨Z, S, R, w⟩ => ⟨Z, S, R, ha.mo _ _ (fun a w v H1 ev1 R1 d1 => ⟨Z, S, R1, hb.mo _ _ (fun b w u H2 ev2 R2 d2 => by
      refine hd (Rg c (Mo c Z S) .any) H2 v u a b _ (R2.new .any) (d1.evo ev2 (rg_nfa (fun a => mo_fa) .any) fun _ _ _ z => z) d2 w.1 fun z H3 sm d3 => ?_
      cases d3
      refine ⟨_, rfl, ?_⟩
      have w2 := w.2
      have R3 := R2.same sm
      have ev13 : Evo (fa c) H H3 := (ev1.trans ev2 fun a q => .inl q).trans (.of_same sm) fun a q => .inl q
      by_cases h : g a b = true
      · rw [if_pos h] at w2 ⊢
        refine ⟨Z, S, R3, hc.mo _ _ (fun d w t H4 ev4 R4 d4 => ?_) w2⟩
        refine hd' (Rg c (Mo c Z S) .any) H4 u t b d Q (R4.new .any) ((d2.evo (M := fun _ => False) (.of_same sm) (fun _ _ z => z) fun _ _ _ z => z).evo ev4 (rg_nfa (fun a => mo_fa) .any) fun _ _ _ z => z) d4 w.1 fun z H5 sm5 d5 => ?_
        exact w.2 z H5 ((ev13.trans ev4 fun a q => .inl q).trans (.of_same sm5) fun a q => .inl q) (R4.same sm5) d5
      · rw [if_neg h] at w2 ⊢
        exact w2 _ H3 ev13 R3 (.bl _)) w⟩) w⟩⟩
theorem px_chain {op op' : CmpOp} {r r' : R2} {g : α → β → Bool} {g' : β → γ → Bool} (ho : OpR X (compareOp op) r) (hd : DOp r (fun _ _ => True) g) (ho' : OpR X (compareOp op') r') (hd' : DOp r' (fun _ _ => True) g') {Pa Pb Pc : Prop} {a : α} {b : β} {d : γ}
    (ha : WX X c Γ .any e1 (Wp Pa a)) (hb : WX X c Γ .any e2 (Wp Pb b)) (hc : WX X c Γ .any e3 (Wp Pc d)) (hm : lastMarks [op, op'] [e2, e3] = false := by with_unfolding_all rfl) :
    WX X c Γ m (.Compare e1 [op, op'] [e2, e3] pos) (Wp (Pa ∧ Pb ∧ Pc) (g a b && g' b d)) := (wx_chain ho hd ho' hd' ha hb hc hm).imp (fun Q q => ⟨q.1.1, q.1.2.1, trivial, by
    by_cases h : g a b = true
    · rw [if_pos h]
      have := q.2
      rw [h, Bool.true_and] at this
      exact ⟨q.1.2.2, trivial, this⟩
    · rw [if_neg h]
      have := q.2
      rw [Bool.eq_false_iff.mpr h, Bool.false_and] at this
      exact this⟩) mono_wp
theorem pn_imp1 {P : Prop} {a : α} {g : α → List β} (h : WN X c Γ m e (fun Q => Wp P a fun x => Q (g x))) : WN X c Γ m e (Wp P (g a)) := h
theorem pi_r1 {P : Prop} {n : Int} (h : WI X c Γ k m tg e (fun Q => Wp P n fun n => cRg 0 n ∧ Q (rng 0 n))) : WI X c Γ k m tg e (Wp (P ∧ cRg 0 n) (rng 0 n)) := h.imp (fun Q q => ⟨q.1.1, q.1.2, q.2⟩) mono_wp
theorem pi_r2 {P P' : Prop} {a b : Int} (h : WI X c Γ k m tg e (fun Q => Wp P a fun a => Wp P' b fun b => cRg a b ∧ Q (rng a b))) : WI X c Γ k m tg e (Wp (P ∧ P' ∧ cRg a b) (rng a b)) := h.imp (fun Q q => ⟨q.1.1, q.1.2.1, q.1.2.2, q.2⟩) mono_wp
/-- the outer target of two fors: the inner names are wiped besides -/
theorem wipe_app (σ : L2.St) : ∀ (vs ws : List Nat), L2.wipe σ (vs ++ ws) = L2.wipe (L2.wipe σ ws) vs
  | [], ws => rfl
  | v :: vs, ws => by
    show (L2.wipe σ (vs ++ ws)).set v none = _
    rw [wipe_app σ vs ws]
    rfl
theorem ct_moreN {vs : List Nat} {g : TG} {Γe : List LD → α → List LD} (ws : List Nat) (h : ∀ Γ, CT c Γ vs m g (Γe Γ)) : CT c Γ (vs ++ ws) m g (Γe (wipeG Γ ws)) :=
  ⟨fun Z S H σ v a Q R d q => by
    rw [wipe_app]
    refine (h (wipeG Γ ws)).run Z S H (L2.wipe σ ws) v a Q (R.wipe ws) d fun σ2 R2 hw => q σ2 R2 ?_
    refine List.ext_getElem? fun j => ?_
    have hj := congrArg (fun l => l[j]?) hw
    have hl : σ2.length = σ.length := by
      have := congrArg List.length hw
      simpa [L2.wipe_length] using this
    simp only [wipe_get, L2.wipe_length] at hj ⊢
    by_cases h1 : j ∈ vs ++ ws
    · rw [if_pos h1, if_pos h1, hl]
    · have h2 : j ∉ vs := fun z => h1 (List.mem_append_left _ z)
      have h3 : j ∉ ws := fun z => h1 (List.mem_append_right _ z)
      rw [if_neg h1, if_neg h1]
      rw [if_neg h2, if_neg h2, if_neg h3] at hj
      exact hj⟩
/-- what is read now and holds no lists -/
theorem WX.lift {W : (List α → Prop) → Prop} (h : WX X c Γ m' e W) (k : Enc.nl α = true := by rfl) (hm : m' ≠ .any := by decide) : WX X c Γ .any e W := h.le0
/-! ### isinstance -/
def isT (t : String) (a : α) : Prop := ∀ (K : PySem.W.Frag) (A : Rgn) (H : Hp) (v : V), DA A H v (enc a) → TyX K H v (.type t)
theorem isiT_I (a : Int) : isT "int" a := fun K A H v h => by cases (h : DA A H v (.int a)); exact .base (.int a)
theorem isiT_B (a : Bool) : isT "bool" a := fun K A H v h => by cases (h : DA A H v (.bool a)); exact .base (.bl a)
theorem isiT_S (a : Str) : isT "str" a := fun K A H v h => by cases (h : DA A H v (.str a)); exact .base (.str a)
theorem isiT_L (a : List α) : isT "list" a := fun K A H v h => by
  cases (h : DA A H v (.list (a.map enc))) with
  | lst _ r z q => exact .base (.lst r)
theorem isiT_P (a : α × β) : isT "tuple" a := fun K A H v h => by
  cases (h : DA A H v (.tuple [enc a.1, enc a.2])) with
  | tup r z q => exact .base (.tup r)
theorem isiT_T3 (a : T3 α β γ) : isT "tuple" a := fun K A H v h => by
  cases (h : DA A H v (.tuple [enc a.a, enc a.b, enc a.c])) with
  | tup r z q => exact .base (.tup r)
theorem isiT_T4 (a : T4 α β γ δ) : isT "tuple" a := fun K A H v h => by
  cases (h : DA A H v (.tuple [enc a.a, enc a.b, enc a.c, enc a.d])) with
  | tup r z q => exact .base (.tup r)
theorem wx_isi {t cn : String} {b : Bool} {f q : Str} {W : (α → Prop) → Prop} (hm : X.mg f = none) (hq : X.mg q = none) (ht : ∀ a : α, isT t a) (hf : bootBuiltins f = some (.builtin "isinstance")) (hqv : bootBuiltins q = some (.type cn)) (hk : kitB t cn = some b) (ha : WX X c Γ .any e W)
    (hg : Gl X f := by rfl) (hg2 : Gl X q := by rfl) (hn : f ≠ "__name__" := by decide) (hdb : (f == ("__debug__" : Str)) = false := by decide) (hn2 : q ≠ "__name__" := by decide) (hdb2 : (q == ("__debug__" : Str)) = false := by decide)
    (hs : starEach [e, .Name q p2] X.env = (false, eval e X.env) :: starEach [.Name q p2] X.env := by rfl) : WX X c Γ m (.Call (.Name f p) [e, .Name q p2] [] pos) (fun Q => W fun _ => Q b) :=
  ⟨fun _ _ k w => ha.mo _ _ (fun a w => k _ w) w, PE.mono (pe_callB call_isi hg hm hf (pa_cons ha.run (pa_cons (pe_bltn hg2 hq hqv (v := .ty cn) rfl hn2 hdb2) pa_nil rfl) hs) hn hdb hs rfl) fun σ H Q ⟨Z, S, R, w⟩ => ⟨Z, S, R, ha.mo _ _ (fun a w v H1 ev1 R1 d1 => by
    exact ⟨v, .ty cn, .type t, .type cn, b, rfl, .ty cn, ht a X.K _ H1 v d1, kit_ty hk, w _ H1 ev1 R1 (.bl _)⟩) w⟩⟩
theorem px_isi {t cn : String} {b : Bool} {f q : Str} {P : Prop} {a : α} (hm : X.mg f = none) (hq : X.mg q = none) (ht : ∀ a : α, isT t a) (hf : bootBuiltins f = some (.builtin "isinstance")) (hqv : bootBuiltins q = some (.type cn)) (hk : kitB t cn = some b) (ha : WX X c Γ .any e (Wp P a))
    (hg : Gl X f := by rfl) (hg2 : Gl X q := by rfl) (hn : f ≠ "__name__" := by decide) (hdb : (f == ("__debug__" : Str)) = false := by decide) (hn2 : q ≠ "__name__" := by decide) (hdb2 : (q == ("__debug__" : Str)) = false := by decide)
    (hs : starEach [e, .Name q p2] X.env = (false, eval e X.env) :: starEach [.Name q p2] X.env := by rfl) : WX X c Γ m (.Call (.Name f p) [e, .Name q p2] [] pos) (Wp P b) := (wx_isi hm hq ht hf hqv hk ha hg hg2 hn hdb hn2 hdb2 hs).imp (fun Q q => q) mono_wp
end
/-! ### the moves of a proof about W -/
theorem wp_true {α : Type} {a : α} {Q : α → Prop} (h : Q a) : Wp True a Q := ⟨trivial, h⟩
end DL

namespace DL
open PySem PySem.Spec PyProof.Rows L2
open Enc (enc)
/-! ## the law's own feed, the law -/
abbrev fl (a : Addr) (i b s : Int) : List V := [.ref a, .int i, .int b, .int s]
def s_draw : Int → (Int → Prop) → Prop := fun many Q => (0 < many ∧ many < 1073741824) ∧ ∀ k, 0 ≤ k → k < many → Q k
theorem ms_draw : ∀ a, Mono (s_draw a) := fun a Q Q' k h => ⟨h.1, fun x h1 h2 => k _ (h.2 x h1 h2)⟩
def spFeed (K : PySem.W.Frag) : Sp := fun vs H Q _ => ∃ (a : Addr) (ns : List Int), vs = [.ref a] ∧ SqL K H a (ns.map V.int) ∧ ns.length ≤ 63 ∧
  ∀ (H' : Hp) (F : Feed), Same H H' → FeedAt H' F → Q (.ref F.a) H'
def spLaw (K : PySem.W.Frag) : Sp := fun vs H Q _ => ∃ (a : Addr) (ns : List Int), vs = [.ref a] ∧ SqL K H a (ns.map V.int) ∧ ns.length ≤ 63 ∧ ∀ H', Q (.bl true) H'
section
variable {P : Program} {w : World} {K : PySem.W.Frag} {mg : Str → Option Value} {base : Heap} {x qual : Str} {st : Stmt} {f : Addr} {fd : FuncData} {N N' ps : List Str} {k j : Nat}

theorem repL {H : Hp} {F : Feed} {σ : L2.St} {n : Nat} (hf : FeedAt H F) (hσ : σ[1]? = some (some (.ref F.a))) (hl : n + 2 ≤ σ.length) :
    Rep (cF H F) (fun _ => False) S0 H σ (.no :: .fd :: List.replicate n .no) := by
  have nm : ∀ a, Mo (cF H F) (fun _ => False) S0 a → a = F.a := fun a z => by
    rcases z with z | ⟨_, z⟩ | ⟨_, z, h⟩
    · exact z.elim
    · exact z.elim
    · cases z; exact h
  refine ⟨fun i l q => ?_, fun _ _ _ z => z.elim, fun _ _ z => z.elim, fun a n => ⟨n, fun z => ?_⟩, fun F' q => ?_, ?_, fun _ z => z.elim⟩
  · match i with
    | 0 => simp at q; subst q; trivial
    | 1 => simp at q; subst q; exact ⟨F, rfl, hσ⟩
    | i + 2 =>
      rw [List.getElem?_cons_succ, List.getElem?_cons_succ, List.getElem?_replicate] at q
      split at q
      · cases q; trivial
      · cases q
  · obtain ⟨⟨_, _, _, h, _⟩, _⟩ := hf
    rw [nm a z] at n
    rw [n] at h
    cases h
  · cases (show some F = some F' from q)
    exact ⟨hf, fun z => hf.2.2.2 (nm _ z)⟩
  · simp only [List.length_replicate, List.length_cons]
    omega
theorem lawEnd {y yf : Str} {X : Cx} {st1 : Stmt} {rest : List Stmt} {a : Addr} {ns : List Int} {H : Hp} {Q : VK} {W : (Unit → Prop) → (Bool → Prop) → Prop}
    (first : PS X st1 (tAsg (tCall (spFeed K) [] E0 (tCons (tVar 0) tNil)) (gName 1)))
    (body : ∀ Hb Fd, BX X (cF Hb Fd) .fr (fun _ : Unit => []) (.no :: .fd :: List.replicate N'.length .no) rest W)
    (hs : SqL K H a (ns.map V.int)) (hl : ns.length ≤ 63) (q : ∀ H', Q (.bl true) H') (h : W (fun _ => False) (fun r => r = true)) :
    ∃ t, PSs X (st1 :: rest) t ∧ t { nx := fun _ H' => Q .non H', rt := Q } (L2.start (y :: yf :: N') [.ref a]) H := by
  refine ⟨_, pss_cons first (PSs.ex fun z : Hp × Feed => (body z.1 z.2).run), ?_⟩
  refine ⟨_, rfl, a, ns, rfl, hs, hl, fun H' Fd sm fe => ?_⟩
  refine ⟨(H', Fd), _, _, repL fe rfl ?_, (body H' Fd).mo _ _ _ _ (fun s q' => q'.elim) (fun r e v H'' S' ev R' d => ?_) h⟩
  · simp [L2.start, gName]
  · subst e
    cases d
    exact q _
end
end DL

namespace DL
open PySem PySem.Spec PyProof.Rows L2
open Enc (enc)
/-! ## what a call gives is new -/
section
variable {α β γ δ ρ ς ς1 : Type} [Enc α] [Enc β] [Enc γ] [Enc δ] [Enc ρ]
variable {X : Cx} {c : Cf} {Γ Γ' : List LD} {m m' m1 m2 rm : Rk} {e e1 e2 e3 e4 tg : Expr} {es : List Expr} {pos p p2 p3 px apos cpos : Pos} {k k1 : Bool} {x y : Str}
def tR (c : Cf) (Γ : List LD) (W : (α → Prop) → Prop) : TE := fun σ H Q => ∃ Z S, Rep c Z S H σ Γ ∧ W fun a => ∀ v H', Evo (fa c) H H' → Rep c Z S H' σ Γ → DA (fun l => H l = none) H' v (enc a) → Q v H'
def WR (X : Cx) (c : Cf) (Γ : List LD) (e : Expr) (W : (α → Prop) → Prop) : Prop := Mono W ∧ PE X e (tR c Γ W)
theorem WR.imp {W W' : (α → Prop) → Prop} (h : WR X c Γ e W) (k : ∀ Q, W' Q → W Q) (mo : Mono W') : WR X c Γ e W' :=
  ⟨mo, PE.mono h.2 fun σ H Q ⟨Z, S, R, w⟩ => ⟨Z, S, R, k _ w⟩⟩
theorem WR.wx {W : (α → Prop) → Prop} (h : WR X c Γ e W) : WX X c Γ m e W :=
  ⟨h.1, PE.mono h.2 fun σ H Q ⟨Z, S, R, w⟩ => ⟨Z, S, R, h.1 _ _ (fun a q v H' ev R' d => q v H' ev R' (DA.map (fun l xs hl r => ⟨R.new m l hl, r⟩) (fun _ _ r => r) _ d)) w⟩⟩
theorem das_nl {A B : Rgn} {H : Hp} : ∀ {vs : List V} {ds : List PyData}, (∀ d ∈ ds, noL d = true) → DAs A H vs ds → DAs B H vs ds
  | [], [], _, _ => .nil
  | v :: vs, d :: ds, h, .cons h1 h2 => .cons (DA.noL d (h d (List.mem_cons_self ..)) h1) (das_nl (fun d hd => h d (List.mem_cons_of_mem _ hd)) h2)
theorem WR.wn {W : (List α → Prop) → Prop} (h : WR X c Γ e W) (knl : Enc.nl α = true := by rfl) : WN X c Γ m e W :=
  ⟨h.1, PE.mono h.2 fun σ H Q ⟨Z, S, R, w⟩ => ⟨Z, S, R, h.1 _ _ (fun xs q v H' ev R' d => by
    cases (d : DA _ H' v (.list (xs.map enc))) with
    | @lst l vs _ al r z ds =>
      exact q l vs H' ev R' al r z (das_nl (fun d hd => by
        obtain ⟨a, _, rfl⟩ := List.mem_map.mp hd
        exact Enc.nlok knl a) ds)) w⟩⟩
theorem wr_call {n : Nat} {f : Addr} {fd : FuncData} {ps : List Str} {x : Str} {W : List PyData → (PyData → Prop) → Prop} {Wa : (List PyData → Prop) → Prop} {W' : (ρ → Prop) → Prop} (F : FnOk X.prog X.w X.K X.mg X.base CX0 n f fd ps (sp_ W)) (hr : Room n X.A) (hg : Gl X x) (hm : X.mg x = some (.ref f)) (hk : PySem.W.keepIn X.K (.ref f) = true) (hb : Binds X.K fd ps [])
    (ha : WA X c Γ .any (e :: es) Wa) (mo : Mono W') (h : ∀ Q, W' Q → Wa fun ds => W ds fun r => ∃ a : ρ, enc a = r ∧ Q a) (mW : ∀ ds, Mono (W ds)) (hdb : (x == ("__debug__" : Str)) = false := by decide) (he : starEach (e :: es) X.env = (false, eval e X.env) :: starEach es X.env := by rfl) (hpl : (backTo pos (starEach es X.env)).any (·.1) = false := by rfl) :
    WR X c Γ (.Call (.Name x p) (e :: es) [] pos) W' :=
  ⟨mo, PE.mono (pe_call F hr hg hm hk hb .nil pass0 ha.run hdb he hpl) fun σ H Q ⟨Z, S, R, w⟩ => ⟨Z, S, R, ha.mo _ _ (fun ds w vs H1 ev1 R1 d1 => by
    show sp_ W (vs ++ []) H1 Q E0
    rw [List.append_nil]
    refine ⟨ds, DAs.map (fun a xs _ r => ⟨trivial, r⟩) (fun _ _ r => r) _ d1, mW ds _ _ (fun r q v H2 sm d2 => ?_) w⟩
    obtain ⟨a, rfl, q⟩ := q
    exact q v H2 (ev1.trans (.of_same sm) fun a z => .inl z) (R1.same sm) (DA.map (fun a xs ha r => ⟨(ev1.free ha).resolve_right fun z => (R1.dom a ha).2 (mo_fa z), r⟩) (fun _ _ r => r) _ d2)) (h _ w)⟩⟩
theorem wr_callF {n : Nat} {f : Addr} {fd : FuncData} {ps : List Str} {x y : Str} {py : Pos} (i : Nat) {W : List PyData → (PyData → Prop) → Prop} {Wa : (List PyData → Prop) → Prop} {W' : (ρ → Prop) → Prop} (F : FnOk X.prog X.w X.K X.mg X.base CX0 n f fd ps (spf_ W)) (hr : Room n X.A) (hg : Gl X x) (hm : X.mg x = some (.ref f)) (hk : PySem.W.keepIn X.K (.ref f) = true) (hb : Binds X.K fd ps [])
    (hΓ : Γ[i]? = some .fd) (hN : X.N[i]? = some y) (hv : Vis X.env.scope y) (hd1 : (y == ("__debug__" : Str)) = false) (hcd : (y == ("__classdict__" : Str)) = false) (ha : WA X c Γ .any es Wa) (mo : Mono W') (h : ∀ Q, W' Q → Wa fun ds => W ds fun r => ∃ a : ρ, enc a = r ∧ Q a) (mW : ∀ ds, Mono (W ds))
    (hdb : (x == ("__debug__" : Str)) = false := by decide) (he : starEach (.Name y py :: es) X.env = (false, eval (.Name y py) X.env) :: starEach es X.env := by rfl) (hpl : (backTo pos (starEach es X.env)).any (·.1) = false := by rfl) :
    WR X c Γ (.Call (.Name x p) (.Name y py :: es) [] pos) W' :=
  ⟨mo, PE.mono (pe_call F hr hg hm hk hb .nil pass0 (pa_cons (pe_var hN hv hd1 hcd) ha.run he) hdb he hpl) fun σ H Q ⟨Z, S, R, w⟩ => by
    obtain ⟨Fd, hF, e⟩ := R.slot i _ hΓ
    refine ⟨_, e, Z, S, R, ha.mo _ _ (fun ds w vs H1 ev1 R1 d1 => ?_) (h _ w)⟩
    show spf_ W ((V.ref Fd.a :: vs) ++ []) H1 Q E0
    rw [List.append_nil]
    have fae : ∀ a, fa c a ↔ a = Fd.a := fun a => ⟨fun ⟨F', h1, h2⟩ => by rw [hF] at h1; cases h1; exact h2, fun h => ⟨Fd, hF, h⟩⟩
    refine ⟨Fd, vs, ds, rfl, (R1.feed Fd hF).1, DAs.map (fun a xs ha r => ⟨fun z => ha ((fae a).mpr z), r⟩) (fun _ _ r => r) _ d1, mW ds _ _ (fun r q v H2 ev2 fe d2 => ?_) w⟩
    obtain ⟨a, rfl, q⟩ := q
    have ev2' : Evo (fa c) H1 H2 := ev2.mono fun a z => (fae a).mpr z
    exact q v H2 (ev1.trans ev2' fun a z => .inl z) (R1.step ev2' fun F' hF' => by rw [hF] at hF'; cases hF'; exact fe) (DA.map (fun a xs ha r => ⟨(ev1.free ha).resolve_right fun z => (R1.dom a ha).2 (mo_fa z), r⟩) (fun _ _ r => r) _ d2)⟩
/-- a new value comes to a slot: all its lists are the slot's -/
theorem Rep.fresh {Z : Rgn} {S : Nat → Rgn} {H H' : Hp} {σ : L2.St} {i : Nat} {v : V} {d : PyData} (R : Rep c Z S H σ Γ) (R' : Rep c Z S H' σ Γ) (dv : DA (fun l => H l = none) H' v d) (ev : Evo (fa c) H H') :
    ∃ S', EvS c Z S H S' H' ∧ Rep c Z S' H' (σ.set i (some v)) (Γ.set i (.frs d)) := by
  let S' : Nat → Rgn := fun j a => if j = i then (H a = none ∧ H' a ≠ none ∧ i < Γ.length) else S j a
  have hS : ∀ j a, S' j a → S j a ∨ H a = none := fun j a h => by
    by_cases e : j = i
    · simp only [S', e, if_true] at h; exact .inr h.1
    · simp only [S', e, if_false] at h; exact .inl h
  have hm : ∀ a, H a ≠ none → Mo c Z S' a → Mo c Z S a := fun a ne h => h.imp id fun h => h.imp (fun ⟨j, h⟩ => ⟨j, (hS j a h).resolve_right ne⟩) id
  have rg : ∀ (m : Rk) a, H a ≠ none → Rg c (Mo c Z S) m a → Rg c (Mo c Z S') m a := fun m a ne h => by
    cases m with
    | any => exact h
    | pl => exact fun z => h (hm a ne z)
    | fr => exact ⟨fun z => h.1 (hm a ne z), h.2⟩
  have sm : ∀ {a : Addr} {o : HO}, H a = some o → H a ≠ none := fun r e => by rw [r] at e; cases e
  refine ⟨S', ⟨ev.mono fun a => mo_fa, fun a y => ?_⟩, fun j lj q => ?_, fun j k a h1 h2 => ?_, fun j a h1 => ?_, fun a na => ?_, fun F q => ?_, by simpa using R.len, R.zf⟩
  · by_cases e : H a = none
    · exact .inr e
    · exact .inl (hm a e y)
  · by_cases hj : j = i
    · subst hj
      by_cases hl : j < Γ.length
      · rw [List.getElem?_set_self hl] at q
        cases q
        rw [List.getElem?_set_self (Nat.lt_of_lt_of_le hl R.len)]
        exact ⟨v, rfl, DA.map (fun a xs ha r => ⟨by simp only [S', if_true]; exact ⟨ha, fun e => (by rw [r] at e; cases e), hl⟩, r⟩) (fun _ _ r => r) _ dv⟩
      · rw [List.getElem?_eq_none (by simpa using hl)] at q
        cases q
    · rw [List.getElem?_set_ne (Ne.symm hj)] at q ⊢
      refine (R.slot j lj q).map (fun m a us nm ha r => ⟨rg m a (sm r) ha, ev a _ (.inl (rg_nfa (fun a => mo_fa) m a ha)) r⟩) (fun a us ha r => ⟨?_, ev a _ (.inl (R.zs j a ha).2) r⟩) fun a us r => ev a _ (.inr rfl) r
      show S' j a
      simp only [S', hj, if_false]
      exact ha
  · by_cases e1 : j = i
    · by_cases e2 : k = i
      · rw [e1, e2]
      · simp only [S', e1, e2, if_true, if_false] at h1 h2
        exact absurd (.inr (.inl ⟨k, h2⟩)) (R.dom a h1.1).2
    · by_cases e2 : k = i
      · simp only [S', e1, e2, if_true, if_false] at h1 h2
        exact absurd (.inr (.inl ⟨j, h1⟩)) (R.dom a h2.1).2
      · simp only [S', e1, e2, if_false] at h1 h2
        exact R.disj j k a h1 h2
  · rcases hS j a h1 with h1 | n
    · exact R.zs j a h1
    · exact ⟨fun z => (R.dom a n).2 (.inl z), fun z => (R.dom a n).2 (mo_fa z)⟩
  · refine ⟨(R'.dom a na).1, fun z => ?_⟩
    rcases z with z | ⟨j, z⟩ | z
    · exact (R'.dom a na).2 (.inl z)
    · by_cases e : j = i
      · simp only [S', e, if_true] at z
        exact z.2.1 na
      · simp only [S', e, if_false] at z
        exact (R'.dom a na).2 (.inr (.inl ⟨j, z⟩))
    · exact (R'.dom a na).2 (mo_fa z)
  · exact ⟨(R'.feed F q).1, fun z => (R'.feed F q).2 (hm _ (sm (R.feed F q).1.2.1) z)⟩
/-- x = f(..), what comes is x's own down to its parts -/
theorem bx_fr {G : ς → List LD} {i : Nat} {x : Str} {rest : List Stmt} {W : (α → Prop) → Prop} {Wr : α → (ς → Prop) → (ρ → Prop) → Prop} (he : WR X c Γ e W) (hN : X.N.Nodup) (hr : ∀ a, BX X c rm G (Γ.set i (.frs (enc a))) rest (Wr a)) (hi : X.N[i]? = some x := by rfl) (hx : Loc X.env.scope x := by first | exact Or.inl rfl | exact Or.inr rfl)
    (hs : swapsWith e (some (.Name x px)) pos.line X.env = pure false := by rfl) (hf : X.fn x = true ∨ X.env.scope.names.lookup x = some .local := by first | exact .inl rfl | exact .inr rfl) :
    BX X c rm G Γ (.Assign [.Name x px] e pos :: rest) (fun N R => W fun a => Wr a N R) :=
  ⟨fun N N' R R' kn kr w => he.1 _ _ (fun a w => (hr a).mo N N' R R' kn kr w) w, by
    refine PSs.mono (pss_cons (ps_set hN hi hx he.2 hs hf) (PSs.ex fun a => (hr a).run)) fun D σ H ⟨Z, S, R, w⟩ => ?_
    refine ⟨Z, S, R, he.1 _ _ (fun a w v H' ev R' d => ?_) w⟩
    obtain ⟨S', ev', R1⟩ := Rep.fresh (i := i) R R' d ev
    exact ⟨a, tB_at (hr a).mo ev' R1 w⟩⟩
/-! ## reading into what is a slot's own -/
def tF (c : Cf) (Γ : List LD) (i : Nat) (W : (α → Prop) → Prop) : TE := fun σ H Q => ∃ Z S, Rep c Z S H σ Γ ∧ W fun a => ∀ v H', Evo (fa c) H H' → Rep c Z S H' σ Γ → DA (S i) H' v (enc a) → Q v H'
structure FX (X : Cx) (c : Cf) (Γ : List LD) (i : Nat) (e : Expr) (W : (α → Prop) → Prop) : Prop where
  mo : Mono W
  run : PE X e (tF c Γ i W)
theorem fx_var (i : Nat) {a : α} {x : Str} (hΓ : Γ[i]? = some (.frs (enc a)) := by rfl) (hN : X.N[i]? = some x := by rfl) (hv : Vis X.env.scope x := by first | exact Or.inl rfl | exact Or.inr (Or.inl rfl) | exact Or.inr (Or.inr rfl)) (hd : (x == ("__debug__" : Str)) = false := by decide)
    (hcd : (x == ("__classdict__" : Str)) = false := by decide) : FX X c Γ i (.Name x pos) (Wp True a) :=
  ⟨mono_wp, PE.mono (pe_var hN hv hd hcd) fun σ H Q ⟨Z, S, R, _, w⟩ => by
    obtain ⟨v, e, d⟩ := R.slot i _ hΓ
    exact ⟨v, e, w v H (.refl _ _) R d⟩⟩
/-- the second of a pair -/
theorem fx_snd {i : Nat} {W : (α × β → Prop) → Prop} {j : Nat} (h : FX X c Γ i e W) : FX X c Γ i (.Subscript e (.Constant (.int 1) j p) pos) (fun Q => W fun a => Q a.2) :=
  ⟨fun _ _ k w => h.mo _ _ (fun a w => k _ w) w, PE.mono (pe_ix ix_tup h.run pe_int (fun _ _ => rfl)) fun σ H Q ⟨Z, S, R, w⟩ => ⟨Z, S, R, h.mo _ _ (fun a w v H' ev R' d => by
    cases (d : DA _ H' v (.tuple [enc a.1, enc a.2])) with
    | @tup l vs _ r z ds =>
      cases ds with
      | cons d1 ds =>
        cases ds with
        | cons d2 ds =>
          cases ds
          exact ⟨l, _, 1, _, rfl, rfl, SqT.of r, rfl, w _ H' ev R' d2⟩) w⟩⟩
theorem Rep.poke {Z : Rgn} {S : Nat → Rgn} {H : Hp} {σ : L2.St} {i : Nat} {l : Addr} {vs vs' : List V} (R : Rep c Z S H σ Γ) (s : S i l) (hl : H l = some (.lst vs)) :
    EvS c Z S H S (upd H l (.lst vs')) ∧ Rep c Z S (upd H l (.lst vs')) σ (Γ.set i .no) := by
  have mo : Mo c Z S l := .inr (.inl ⟨i, s⟩)
  have kt : ∀ a xs, H a = some (.tup xs) → upd H l (.lst vs') a = some (.tup xs) := fun a us r => by rw [upd_ne (fun e => by subst e; rw [hl] at r; cases r)]; exact r
  have kl : ∀ a us, ¬ Mo c Z S a → H a = some (.lst us) → upd H l (.lst vs') a = some (.lst us) := fun a us n r => by rw [upd_ne (fun e => n (by subst e; exact mo))]; exact r
  refine ⟨⟨(evo_put hl).mono fun a e => by rw [e]; exact mo, fun a z => .inl z⟩, fun j lj qj => ?_, R.disj, R.zs, fun a na => ?_, fun F hF => ?_, by simpa using R.len, R.zf⟩
  · by_cases hj : j = i
    · subst hj
      by_cases hlt : j < Γ.length
      · rw [List.getElem?_set_self hlt] at qj
        cases qj
        trivial
      · rw [List.getElem?_eq_none (by simpa using hlt)] at qj
        cases qj
    · rw [List.getElem?_set_ne (Ne.symm hj)] at qj
      refine (R.slot j lj qj).map (fun m a us nm ha r => ⟨ha, kl a _ (rg_nm nm a ha) r⟩) (fun a us ha r => ⟨ha, ?_⟩) kt
      rw [upd_ne (fun e => by subst e; exact hj (R.disj j i _ ha s))]
      exact r
  · have ne : a ≠ l := fun e => by subst e; rw [upd_same] at na; cases na
    rw [upd_ne ne] at na
    exact R.dom a na
  · obtain ⟨⟨⟨i', b, s', h1', h2⟩, h3, h4⟩, h5⟩ := R.feed F hF
    have n1 : F.a ≠ l := fun e => (R.zs i l s).2 ⟨F, hF, e.symm⟩
    have n2 : F.ca ≠ l := fun e => h5 (e ▸ mo)
    exact ⟨⟨⟨i', b, s', by rw [upd_ne n1]; exact h1', h2⟩, by rw [upd_ne n2]; exact h3, h4⟩, h5⟩
/-- E.append(e): what holds E is not looked at any more -/
theorem bx_pokeA {G : ς → List LD} {rest : List Stmt} {i : Nat} {W : (List α → Prop) → Prop} {We : (β → Prop) → Prop} {Wr : (ς → Prop) → (ρ → Prop) → Prop} (h : FX X c Γ i e1 W) (he : WX X c Γ m e We) (hr : BX X c rm G (Γ.set i .no) rest Wr)
    (hbase : attributeBase e1 "append" X.env (eval e1 X.env) = eval e1 X.env := by rfl)
    (hfew : ((backTo cpos (starEach (e :: []) X.env)).all (fun x => !x.1) && (backToKw cpos (keywordEach [] X.env)).all (fun x => x.1.isSome) && decide ((e :: ([] : List Expr)).length + ([] : List Keyword).length + (if ([] : List Keyword).isEmpty then 0 else 1) < 30)) = true := by rfl)
    (hline : (apos.endLine == cpos.line) = true := by rfl) (hs : starEach (e :: []) X.env = (false, eval e X.env) :: starEach [] X.env := by rfl) (hsw : swapsWith (.Call (.Attribute e1 "append" apos) [e] [] cpos) none pos.line X.env = pure false := by rfl) :
    BX X c rm G Γ (.Expr (.Call (.Attribute e1 "append" apos) [e] [] cpos) pos :: rest) (fun N R => W fun xs => We fun _ => xs.length < sizeLine ∧ Wr N R) :=
  ⟨fun N N' R R' kn kr w => h.mo _ _ (fun xs w => he.mo _ _ (fun a w => ⟨w.1, hr.mo _ _ _ _ kn kr w.2⟩) w) w,
    PSs.mono (pss_cons (ps_expr (pe_bm PySem.F.plainAttrs_list PySem.F.slot_list_append PySem.F.type_list_append mt_append h.run (pa_cons he.run pa_nil hs) hbase hfew hline hs rfl) hsw) hr.run) fun D σ H ⟨Z, S, R, w⟩ => ⟨Z, S, R, h.mo _ _ (fun xs w v H1 ev1 R1 d1 => by
      cases (d1 : DA _ H1 v (.list (xs.map enc))) with
      | @lst l vs _ al r z ds =>
        refine ⟨.inl ⟨rfl, _, SqL.of r⟩, Z, S, R1, he.mo _ _ (fun a w u H2 ev2 R2 d2 => ?_) w⟩
        have r2 : H2 l = some (.lst vs) := ev2 l _ (.inl (R1.zs i l al).2) r
        obtain ⟨ev3, R3⟩ := Rep.poke (i := i) (vs' := vs ++ [u]) R2 al r2
        have hl : vs.length = xs.length := by rw [ds.length, List.length_map]
        exact ⟨l, vs, u, rfl, rfl, r2, by rw [hl]; exact w.1, tB_at hr.mo (((EvS.of_fa ev1).trans (.of_fa ev2)).trans ev3) R3 w.2⟩) w⟩⟩
end

section
variable {τ0 τ1 τ2 τ3 τ4 τ5 ρ : Type} [Enc τ0] [Enc τ1] [Enc τ2] [Enc τ3] [Enc τ4] [Enc τ5] [Enc ρ]
variable {X : Cx} {c : Cf} {Γ Γ' : List LD} {m m0 m1 m2 m3 m4 m5 : Rk} {e0 e1 e2 e3 e4 e5 : Expr} {pos p : Pos} {n j : Nat} {f : Addr} {fd : FuncData} {ps : List Str} {x y : Str} {py : Pos}
theorem wr_d0 {s : (ρ → Prop) → Prop}  (C : Cl X.prog X.w X.K X.mg X.base x j ps (sf0 s)) (hr : Room n X.A) (ms : Mono (s))  (i : Nat) (hΓ : Γ[i]? = some .fd := by rfl) (hN : X.N[i]? = some y := by rfl) (hv : Vis X.env.scope y := by first | exact Or.inl rfl | exact Or.inr (Or.inl rfl) | exact Or.inr (Or.inr rfl)) (hd1 : (y == ("__debug__" : Str)) = false := by decide) (hcd : (y == ("__classdict__" : Str)) = false := by decide) (hj : j ≤ n := by decide) (hg : Gl X x := by rfl)  (sf : starEach [.Name y py] X.env = (false, eval (.Name y py) X.env) :: starEach [] X.env := by rfl) (hdb : (x == ("__debug__" : Str)) = false := by decide) (hpl : (backTo pos (starEach [] X.env)).any (·.1) = false := by rfl) :
    WR X c Γ (.Call (.Name x p) [.Name y py] [] pos) (fun Q => s Q) := by
  obtain ⟨f, fd, q1, q2, q3, q4⟩ := C
  exact wr_callF i (q4.mono hj) hr hg q1 q2 q3 hΓ hN hv hd1 hcd wa_nil (fun Q Q' k w => ms  _ _ k w) (fun Q w => ⟨rfl, ms  _ _ (fun r q => ⟨r, rfl, q⟩) w⟩) (fun ds Q Q' k q => by
    obtain ⟨rfl, q⟩ := q
    exact ⟨rfl, ms  _ _ (fun r z => k _ z) q⟩) hdb sf hpl
theorem wr_c1 {s : τ0 → (ρ → Prop) → Prop} {W0 : (τ0 → Prop) → Prop} (C : Cl X.prog X.w X.K X.mg X.base x j ps (sp1 s)) (hr : Room n X.A) (ms : ∀ a0, Mono (s a0)) (h0 : WX X c Γ m0 e0 W0) (hj : j ≤ n := by decide) (hg : Gl X x := by rfl) (s0 : starEach [e0] X.env = (false, eval e0 X.env) :: starEach [] X.env := by rfl) (hdb : (x == ("__debug__" : Str)) = false := by decide) (hpl : (backTo pos (starEach [] X.env)).any (·.1) = false := by rfl) :
    WR X c Γ (.Call (.Name x p) [e0] [] pos) (fun Q => W0 fun a0 => s a0 Q) := by
  obtain ⟨f, fd, q1, q2, q3, q4⟩ := C
  exact wr_call (q4.mono hj) hr hg q1 q2 q3 (wa_cons (m := .any) (h0.le0) wa_nil s0) (fun Q Q' k w => h0.mo _ _ (fun a0 w => ms a0 _ _ k w) w) (fun Q w => h0.mo _ _ (fun a0 w => ⟨a0, rfl, ms a0 _ _ (fun r q => ⟨r, rfl, q⟩) w⟩) w) (fun ds Q Q' k q => by
    obtain ⟨a0, rfl, q⟩ := q
    exact ⟨a0, rfl, ms a0 _ _ (fun r z => k _ z) q⟩) hdb s0 hpl
theorem pr_c1 {P : τ0 → Prop} {g : τ0 → ρ} {P0 : Prop} {a0 : τ0} (C : Cl X.prog X.w X.K X.mg X.base x j ps (sp1 fun a0 => Wp (P a0) (g a0))) (hr : Room n X.A) (h0 : WX X c Γ m0 e0 (Wp P0 a0)) (hj : j ≤ n := by decide) (hg : Gl X x := by rfl) (s0 : starEach [e0] X.env = (false, eval e0 X.env) :: starEach [] X.env := by rfl) (hdb : (x == ("__debug__" : Str)) = false := by decide) (hpl : (backTo pos (starEach [] X.env)).any (·.1) = false := by rfl) :
    WR X c Γ (.Call (.Name x p) [e0] [] pos) (Wp (P0 ∧ P a0) (g a0)) :=
  (wr_c1 C hr (fun a0 => mono_wp) h0 hj hg s0 hdb hpl).imp (fun Q q => ⟨q.1.1, q.1.2, q.2⟩) mono_wp
theorem wr_d1 {s : τ0 → (ρ → Prop) → Prop} {W0 : (τ0 → Prop) → Prop} (C : Cl X.prog X.w X.K X.mg X.base x j ps (sf1 s)) (hr : Room n X.A) (ms : ∀ a0, Mono (s a0)) (h0 : WX X c Γ m0 e0 W0) (i : Nat) (hΓ : Γ[i]? = some .fd := by rfl) (hN : X.N[i]? = some y := by rfl) (hv : Vis X.env.scope y := by first | exact Or.inl rfl | exact Or.inr (Or.inl rfl) | exact Or.inr (Or.inr rfl)) (hd1 : (y == ("__debug__" : Str)) = false := by decide) (hcd : (y == ("__classdict__" : Str)) = false := by decide) (hj : j ≤ n := by decide) (hg : Gl X x := by rfl) (s0 : starEach [e0] X.env = (false, eval e0 X.env) :: starEach [] X.env := by rfl) (sf : starEach [.Name y py, e0] X.env = (false, eval (.Name y py) X.env) :: starEach [e0] X.env := by rfl) (hdb : (x == ("__debug__" : Str)) = false := by decide) (hpl : (backTo pos (starEach [e0] X.env)).any (·.1) = false := by rfl) :
    WR X c Γ (.Call (.Name x p) [.Name y py, e0] [] pos) (fun Q => W0 fun a0 => s a0 Q) := by
  obtain ⟨f, fd, q1, q2, q3, q4⟩ := C
  exact wr_callF i (q4.mono hj) hr hg q1 q2 q3 hΓ hN hv hd1 hcd (wa_cons (m := .any) (h0.le0) wa_nil s0) (fun Q Q' k w => h0.mo _ _ (fun a0 w => ms a0 _ _ k w) w) (fun Q w => h0.mo _ _ (fun a0 w => ⟨a0, rfl, ms a0 _ _ (fun r q => ⟨r, rfl, q⟩) w⟩) w) (fun ds Q Q' k q => by
    obtain ⟨a0, rfl, q⟩ := q
    exact ⟨a0, rfl, ms a0 _ _ (fun r z => k _ z) q⟩) hdb sf hpl
theorem wr_c2 {s : τ0 → τ1 → (ρ → Prop) → Prop} {W0 : (τ0 → Prop) → Prop} {W1 : (τ1 → Prop) → Prop} (C : Cl X.prog X.w X.K X.mg X.base x j ps (sp2 s)) (hr : Room n X.A) (ms : ∀ a0 a1, Mono (s a0 a1)) (h0 : WX X c Γ m0 e0 W0) (h1 : WX X c Γ m1 e1 W1) (hj : j ≤ n := by decide) (hg : Gl X x := by rfl) (s0 : starEach [e0, e1] X.env = (false, eval e0 X.env) :: starEach [e1] X.env := by rfl) (s1 : starEach [e1] X.env = (false, eval e1 X.env) :: starEach [] X.env := by rfl) (hdb : (x == ("__debug__" : Str)) = false := by decide) (hpl : (backTo pos (starEach [e1] X.env)).any (·.1) = false := by rfl) :
    WR X c Γ (.Call (.Name x p) [e0, e1] [] pos) (fun Q => W0 fun a0 => W1 fun a1 => s a0 a1 Q) := by
  obtain ⟨f, fd, q1, q2, q3, q4⟩ := C
  exact wr_call (q4.mono hj) hr hg q1 q2 q3 (wa_cons (m := .any) (h0.le0) (wa_cons (m := .any) (h1.le0) wa_nil s1) s0) (fun Q Q' k w => h0.mo _ _ (fun a0 w => h1.mo _ _ (fun a1 w => ms a0 a1 _ _ k w) w) w) (fun Q w => h0.mo _ _ (fun a0 w => h1.mo _ _ (fun a1 w => ⟨a0, a1, rfl, ms a0 a1 _ _ (fun r q => ⟨r, rfl, q⟩) w⟩) w) w) (fun ds Q Q' k q => by
    obtain ⟨a0, a1, rfl, q⟩ := q
    exact ⟨a0, a1, rfl, ms a0 a1 _ _ (fun r z => k _ z) q⟩) hdb s0 hpl
theorem pr_c2 {P : τ0 → τ1 → Prop} {g : τ0 → τ1 → ρ} {P0 : Prop} {a0 : τ0} {P1 : Prop} {a1 : τ1} (C : Cl X.prog X.w X.K X.mg X.base x j ps (sp2 fun a0 a1 => Wp (P a0 a1) (g a0 a1))) (hr : Room n X.A) (h0 : WX X c Γ m0 e0 (Wp P0 a0)) (h1 : WX X c Γ m1 e1 (Wp P1 a1)) (hj : j ≤ n := by decide) (hg : Gl X x := by rfl) (s0 : starEach [e0, e1] X.env = (false, eval e0 X.env) :: starEach [e1] X.env := by rfl) (s1 : starEach [e1] X.env = (false, eval e1 X.env) :: starEach [] X.env := by rfl) (hdb : (x == ("__debug__" : Str)) = false := by decide) (hpl : (backTo pos (starEach [e1] X.env)).any (·.1) = false := by rfl) :
    WR X c Γ (.Call (.Name x p) [e0, e1] [] pos) (Wp (P0 ∧ P1 ∧ P a0 a1) (g a0 a1)) :=
  (wr_c2 C hr (fun a0 a1 => mono_wp) h0 h1 hj hg s0 s1 hdb hpl).imp (fun Q q => ⟨q.1.1, q.1.2.1, q.1.2.2, q.2⟩) mono_wp
theorem wr_d2 {s : τ0 → τ1 → (ρ → Prop) → Prop} {W0 : (τ0 → Prop) → Prop} {W1 : (τ1 → Prop) → Prop} (C : Cl X.prog X.w X.K X.mg X.base x j ps (sf2 s)) (hr : Room n X.A) (ms : ∀ a0 a1, Mono (s a0 a1)) (h0 : WX X c Γ m0 e0 W0) (h1 : WX X c Γ m1 e1 W1) (i : Nat) (hΓ : Γ[i]? = some .fd := by rfl) (hN : X.N[i]? = some y := by rfl) (hv : Vis X.env.scope y := by first | exact Or.inl rfl | exact Or.inr (Or.inl rfl) | exact Or.inr (Or.inr rfl)) (hd1 : (y == ("__debug__" : Str)) = false := by decide) (hcd : (y == ("__classdict__" : Str)) = false := by decide) (hj : j ≤ n := by decide) (hg : Gl X x := by rfl) (s0 : starEach [e0, e1] X.env = (false, eval e0 X.env) :: starEach [e1] X.env := by rfl) (s1 : starEach [e1] X.env = (false, eval e1 X.env) :: starEach [] X.env := by rfl) (sf : starEach [.Name y py, e0, e1] X.env = (false, eval (.Name y py) X.env) :: starEach [e0, e1] X.env := by rfl) (hdb : (x == ("__debug__" : Str)) = false := by decide) (hpl : (backTo pos (starEach [e0, e1] X.env)).any (·.1) = false := by rfl) :
    WR X c Γ (.Call (.Name x p) [.Name y py, e0, e1] [] pos) (fun Q => W0 fun a0 => W1 fun a1 => s a0 a1 Q) := by
  obtain ⟨f, fd, q1, q2, q3, q4⟩ := C
  exact wr_callF i (q4.mono hj) hr hg q1 q2 q3 hΓ hN hv hd1 hcd (wa_cons (m := .any) (h0.le0) (wa_cons (m := .any) (h1.le0) wa_nil s1) s0) (fun Q Q' k w => h0.mo _ _ (fun a0 w => h1.mo _ _ (fun a1 w => ms a0 a1 _ _ k w) w) w) (fun Q w => h0.mo _ _ (fun a0 w => h1.mo _ _ (fun a1 w => ⟨a0, a1, rfl, ms a0 a1 _ _ (fun r q => ⟨r, rfl, q⟩) w⟩) w) w) (fun ds Q Q' k q => by
    obtain ⟨a0, a1, rfl, q⟩ := q
    exact ⟨a0, a1, rfl, ms a0 a1 _ _ (fun r z => k _ z) q⟩) hdb sf hpl
theorem wr_c3 {s : τ0 → τ1 → τ2 → (ρ → Prop) → Prop} {W0 : (τ0 → Prop) → Prop} {W1 : (τ1 → Prop) → Prop} {W2 : (τ2 → Prop) → Prop} (C : Cl X.prog X.w X.K X.mg X.base x j ps (sp3 s)) (hr : Room n X.A) (ms : ∀ a0 a1 a2, Mono (s a0 a1 a2)) (h0 : WX X c Γ m0 e0 W0) (h1 : WX X c Γ m1 e1 W1) (h2 : WX X c Γ m2 e2 W2) (hj : j ≤ n := by decide) (hg : Gl X x := by rfl) (s0 : starEach [e0, e1, e2] X.env = (false, eval e0 X.env) :: starEach [e1, e2] X.env := by rfl) (s1 : starEach [e1, e2] X.env = (false, eval e1 X.env) :: starEach [e2] X.env := by rfl) (s2 : starEach [e2] X.env = (false, eval e2 X.env) :: starEach [] X.env := by rfl) (hdb : (x == ("__debug__" : Str)) = false := by decide) (hpl : (backTo pos (starEach [e1, e2] X.env)).any (·.1) = false := by rfl) :
    WR X c Γ (.Call (.Name x p) [e0, e1, e2] [] pos) (fun Q => W0 fun a0 => W1 fun a1 => W2 fun a2 => s a0 a1 a2 Q) := by
  obtain ⟨f, fd, q1, q2, q3, q4⟩ := C
  exact wr_call (q4.mono hj) hr hg q1 q2 q3 (wa_cons (m := .any) (h0.le0) (wa_cons (m := .any) (h1.le0) (wa_cons (m := .any) (h2.le0) wa_nil s2) s1) s0) (fun Q Q' k w => h0.mo _ _ (fun a0 w => h1.mo _ _ (fun a1 w => h2.mo _ _ (fun a2 w => ms a0 a1 a2 _ _ k w) w) w) w) (fun Q w => h0.mo _ _ (fun a0 w => h1.mo _ _ (fun a1 w => h2.mo _ _ (fun a2 w => ⟨a0, a1, a2, rfl, ms a0 a1 a2 _ _ (fun r q => ⟨r, rfl, q⟩) w⟩) w) w) w) (fun ds Q Q' k q => by
    obtain ⟨a0, a1, a2, rfl, q⟩ := q
    exact ⟨a0, a1, a2, rfl, ms a0 a1 a2 _ _ (fun r z => k _ z) q⟩) hdb s0 hpl
theorem pr_c3 {P : τ0 → τ1 → τ2 → Prop} {g : τ0 → τ1 → τ2 → ρ} {P0 : Prop} {a0 : τ0} {P1 : Prop} {a1 : τ1} {P2 : Prop} {a2 : τ2} (C : Cl X.prog X.w X.K X.mg X.base x j ps (sp3 fun a0 a1 a2 => Wp (P a0 a1 a2) (g a0 a1 a2))) (hr : Room n X.A) (h0 : WX X c Γ m0 e0 (Wp P0 a0)) (h1 : WX X c Γ m1 e1 (Wp P1 a1)) (h2 : WX X c Γ m2 e2 (Wp P2 a2)) (hj : j ≤ n := by decide) (hg : Gl X x := by rfl) (s0 : starEach [e0, e1, e2] X.env = (false, eval e0 X.env) :: starEach [e1, e2] X.env := by rfl) (s1 : starEach [e1, e2] X.env = (false, eval e1 X.env) :: starEach [e2] X.env := by rfl) (s2 : starEach [e2] X.env = (false, eval e2 X.env) :: starEach [] X.env := by rfl) (hdb : (x == ("__debug__" : Str)) = false := by decide) (hpl : (backTo pos (starEach [e1, e2] X.env)).any (·.1) = false := by rfl) :
    WR X c Γ (.Call (.Name x p) [e0, e1, e2] [] pos) (Wp (P0 ∧ P1 ∧ P2 ∧ P a0 a1 a2) (g a0 a1 a2)) :=
  (wr_c3 C hr (fun a0 a1 a2 => mono_wp) h0 h1 h2 hj hg s0 s1 s2 hdb hpl).imp (fun Q q => ⟨q.1.1, q.1.2.1, q.1.2.2.1, q.1.2.2.2, q.2⟩) mono_wp
theorem wr_d3 {s : τ0 → τ1 → τ2 → (ρ → Prop) → Prop} {W0 : (τ0 → Prop) → Prop} {W1 : (τ1 → Prop) → Prop} {W2 : (τ2 → Prop) → Prop} (C : Cl X.prog X.w X.K X.mg X.base x j ps (sf3 s)) (hr : Room n X.A) (ms : ∀ a0 a1 a2, Mono (s a0 a1 a2)) (h0 : WX X c Γ m0 e0 W0) (h1 : WX X c Γ m1 e1 W1) (h2 : WX X c Γ m2 e2 W2) (i : Nat) (hΓ : Γ[i]? = some .fd := by rfl) (hN : X.N[i]? = some y := by rfl) (hv : Vis X.env.scope y := by first | exact Or.inl rfl | exact Or.inr (Or.inl rfl) | exact Or.inr (Or.inr rfl)) (hd1 : (y == ("__debug__" : Str)) = false := by decide) (hcd : (y == ("__classdict__" : Str)) = false := by decide) (hj : j ≤ n := by decide) (hg : Gl X x := by rfl) (s0 : starEach [e0, e1, e2] X.env = (false, eval e0 X.env) :: starEach [e1, e2] X.env := by rfl) (s1 : starEach [e1, e2] X.env = (false, eval e1 X.env) :: starEach [e2] X.env := by rfl) (s2 : starEach [e2] X.env = (false, eval e2 X.env) :: starEach [] X.env := by rfl) (sf : starEach [.Name y py, e0, e1, e2] X.env = (false, eval (.Name y py) X.env) :: starEach [e0, e1, e2] X.env := by rfl) (hdb : (x == ("__debug__" : Str)) = false := by decide) (hpl : (backTo pos (starEach [e0, e1, e2] X.env)).any (·.1) = false := by rfl) :
    WR X c Γ (.Call (.Name x p) [.Name y py, e0, e1, e2] [] pos) (fun Q => W0 fun a0 => W1 fun a1 => W2 fun a2 => s a0 a1 a2 Q) := by
  obtain ⟨f, fd, q1, q2, q3, q4⟩ := C
  exact wr_callF i (q4.mono hj) hr hg q1 q2 q3 hΓ hN hv hd1 hcd (wa_cons (m := .any) (h0.le0) (wa_cons (m := .any) (h1.le0) (wa_cons (m := .any) (h2.le0) wa_nil s2) s1) s0) (fun Q Q' k w => h0.mo _ _ (fun a0 w => h1.mo _ _ (fun a1 w => h2.mo _ _ (fun a2 w => ms a0 a1 a2 _ _ k w) w) w) w) (fun Q w => h0.mo _ _ (fun a0 w => h1.mo _ _ (fun a1 w => h2.mo _ _ (fun a2 w => ⟨a0, a1, a2, rfl, ms a0 a1 a2 _ _ (fun r q => ⟨r, rfl, q⟩) w⟩) w) w) w) (fun ds Q Q' k q => by
    obtain ⟨a0, a1, a2, rfl, q⟩ := q
    exact ⟨a0, a1, a2, rfl, ms a0 a1 a2 _ _ (fun r z => k _ z) q⟩) hdb sf hpl
theorem wr_c4 {s : τ0 → τ1 → τ2 → τ3 → (ρ → Prop) → Prop} {W0 : (τ0 → Prop) → Prop} {W1 : (τ1 → Prop) → Prop} {W2 : (τ2 → Prop) → Prop} {W3 : (τ3 → Prop) → Prop} (C : Cl X.prog X.w X.K X.mg X.base x j ps (sp4 s)) (hr : Room n X.A) (ms : ∀ a0 a1 a2 a3, Mono (s a0 a1 a2 a3)) (h0 : WX X c Γ m0 e0 W0) (h1 : WX X c Γ m1 e1 W1) (h2 : WX X c Γ m2 e2 W2) (h3 : WX X c Γ m3 e3 W3) (hj : j ≤ n := by decide) (hg : Gl X x := by rfl) (s0 : starEach [e0, e1, e2, e3] X.env = (false, eval e0 X.env) :: starEach [e1, e2, e3] X.env := by rfl) (s1 : starEach [e1, e2, e3] X.env = (false, eval e1 X.env) :: starEach [e2, e3] X.env := by rfl) (s2 : starEach [e2, e3] X.env = (false, eval e2 X.env) :: starEach [e3] X.env := by rfl) (s3 : starEach [e3] X.env = (false, eval e3 X.env) :: starEach [] X.env := by rfl) (hdb : (x == ("__debug__" : Str)) = false := by decide) (hpl : (backTo pos (starEach [e1, e2, e3] X.env)).any (·.1) = false := by rfl) :
    WR X c Γ (.Call (.Name x p) [e0, e1, e2, e3] [] pos) (fun Q => W0 fun a0 => W1 fun a1 => W2 fun a2 => W3 fun a3 => s a0 a1 a2 a3 Q) := by
  obtain ⟨f, fd, q1, q2, q3, q4⟩ := C
  exact wr_call (q4.mono hj) hr hg q1 q2 q3 (wa_cons (m := .any) (h0.le0) (wa_cons (m := .any) (h1.le0) (wa_cons (m := .any) (h2.le0) (wa_cons (m := .any) (h3.le0) wa_nil s3) s2) s1) s0) (fun Q Q' k w => h0.mo _ _ (fun a0 w => h1.mo _ _ (fun a1 w => h2.mo _ _ (fun a2 w => h3.mo _ _ (fun a3 w => ms a0 a1 a2 a3 _ _ k w) w) w) w) w) (fun Q w => h0.mo _ _ (fun a0 w => h1.mo _ _ (fun a1 w => h2.mo _ _ (fun a2 w => h3.mo _ _ (fun a3 w => ⟨a0, a1, a2, a3, rfl, ms a0 a1 a2 a3 _ _ (fun r q => ⟨r, rfl, q⟩) w⟩) w) w) w) w) (fun ds Q Q' k q => by
    obtain ⟨a0, a1, a2, a3, rfl, q⟩ := q
    exact ⟨a0, a1, a2, a3, rfl, ms a0 a1 a2 a3 _ _ (fun r z => k _ z) q⟩) hdb s0 hpl
theorem pr_c4 {P : τ0 → τ1 → τ2 → τ3 → Prop} {g : τ0 → τ1 → τ2 → τ3 → ρ} {P0 : Prop} {a0 : τ0} {P1 : Prop} {a1 : τ1} {P2 : Prop} {a2 : τ2} {P3 : Prop} {a3 : τ3} (C : Cl X.prog X.w X.K X.mg X.base x j ps (sp4 fun a0 a1 a2 a3 => Wp (P a0 a1 a2 a3) (g a0 a1 a2 a3))) (hr : Room n X.A) (h0 : WX X c Γ m0 e0 (Wp P0 a0)) (h1 : WX X c Γ m1 e1 (Wp P1 a1)) (h2 : WX X c Γ m2 e2 (Wp P2 a2)) (h3 : WX X c Γ m3 e3 (Wp P3 a3)) (hj : j ≤ n := by decide) (hg : Gl X x := by rfl) (s0 : starEach [e0, e1, e2, e3] X.env = (false, eval e0 X.env) :: starEach [e1, e2, e3] X.env := by rfl) (s1 : starEach [e1, e2, e3] X.env = (false, eval e1 X.env) :: starEach [e2, e3] X.env := by rfl) (s2 : starEach [e2, e3] X.env = (false, eval e2 X.env) :: starEach [e3] X.env := by rfl) (s3 : starEach [e3] X.env = (false, eval e3 X.env) :: starEach [] X.env := by rfl) (hdb : (x == ("__debug__" : Str)) = false := by decide) (hpl : (backTo pos (starEach [e1, e2, e3] X.env)).any (·.1) = false := by rfl) :
    WR X c Γ (.Call (.Name x p) [e0, e1, e2, e3] [] pos) (Wp (P0 ∧ P1 ∧ P2 ∧ P3 ∧ P a0 a1 a2 a3) (g a0 a1 a2 a3)) :=
  (wr_c4 C hr (fun a0 a1 a2 a3 => mono_wp) h0 h1 h2 h3 hj hg s0 s1 s2 s3 hdb hpl).imp (fun Q q => ⟨q.1.1, q.1.2.1, q.1.2.2.1, q.1.2.2.2.1, q.1.2.2.2.2, q.2⟩) mono_wp
theorem wr_c5 {s : τ0 → τ1 → τ2 → τ3 → τ4 → (ρ → Prop) → Prop} {W0 : (τ0 → Prop) → Prop} {W1 : (τ1 → Prop) → Prop} {W2 : (τ2 → Prop) → Prop} {W3 : (τ3 → Prop) → Prop} {W4 : (τ4 → Prop) → Prop} (C : Cl X.prog X.w X.K X.mg X.base x j ps (sp5 s)) (hr : Room n X.A) (ms : ∀ a0 a1 a2 a3 a4, Mono (s a0 a1 a2 a3 a4)) (h0 : WX X c Γ m0 e0 W0) (h1 : WX X c Γ m1 e1 W1) (h2 : WX X c Γ m2 e2 W2) (h3 : WX X c Γ m3 e3 W3) (h4 : WX X c Γ m4 e4 W4) (hj : j ≤ n := by decide) (hg : Gl X x := by rfl) (s0 : starEach [e0, e1, e2, e3, e4] X.env = (false, eval e0 X.env) :: starEach [e1, e2, e3, e4] X.env := by rfl) (s1 : starEach [e1, e2, e3, e4] X.env = (false, eval e1 X.env) :: starEach [e2, e3, e4] X.env := by rfl) (s2 : starEach [e2, e3, e4] X.env = (false, eval e2 X.env) :: starEach [e3, e4] X.env := by rfl) (s3 : starEach [e3, e4] X.env = (false, eval e3 X.env) :: starEach [e4] X.env := by rfl) (s4 : starEach [e4] X.env = (false, eval e4 X.env) :: starEach [] X.env := by rfl) (hdb : (x == ("__debug__" : Str)) = false := by decide) (hpl : (backTo pos (starEach [e1, e2, e3, e4] X.env)).any (·.1) = false := by rfl) :
    WR X c Γ (.Call (.Name x p) [e0, e1, e2, e3, e4] [] pos) (fun Q => W0 fun a0 => W1 fun a1 => W2 fun a2 => W3 fun a3 => W4 fun a4 => s a0 a1 a2 a3 a4 Q) := by
  obtain ⟨f, fd, q1, q2, q3, q4⟩ := C
  exact wr_call (q4.mono hj) hr hg q1 q2 q3 (wa_cons (m := .any) (h0.le0) (wa_cons (m := .any) (h1.le0) (wa_cons (m := .any) (h2.le0) (wa_cons (m := .any) (h3.le0) (wa_cons (m := .any) (h4.le0) wa_nil s4) s3) s2) s1) s0) (fun Q Q' k w => h0.mo _ _ (fun a0 w => h1.mo _ _ (fun a1 w => h2.mo _ _ (fun a2 w => h3.mo _ _ (fun a3 w => h4.mo _ _ (fun a4 w => ms a0 a1 a2 a3 a4 _ _ k w) w) w) w) w) w) (fun Q w => h0.mo _ _ (fun a0 w => h1.mo _ _ (fun a1 w => h2.mo _ _ (fun a2 w => h3.mo _ _ (fun a3 w => h4.mo _ _ (fun a4 w => ⟨a0, a1, a2, a3, a4, rfl, ms a0 a1 a2 a3 a4 _ _ (fun r q => ⟨r, rfl, q⟩) w⟩) w) w) w) w) w) (fun ds Q Q' k q => by
    obtain ⟨a0, a1, a2, a3, a4, rfl, q⟩ := q
    exact ⟨a0, a1, a2, a3, a4, rfl, ms a0 a1 a2 a3 a4 _ _ (fun r z => k _ z) q⟩) hdb s0 hpl
theorem pr_c5 {P : τ0 → τ1 → τ2 → τ3 → τ4 → Prop} {g : τ0 → τ1 → τ2 → τ3 → τ4 → ρ} {P0 : Prop} {a0 : τ0} {P1 : Prop} {a1 : τ1} {P2 : Prop} {a2 : τ2} {P3 : Prop} {a3 : τ3} {P4 : Prop} {a4 : τ4} (C : Cl X.prog X.w X.K X.mg X.base x j ps (sp5 fun a0 a1 a2 a3 a4 => Wp (P a0 a1 a2 a3 a4) (g a0 a1 a2 a3 a4))) (hr : Room n X.A) (h0 : WX X c Γ m0 e0 (Wp P0 a0)) (h1 : WX X c Γ m1 e1 (Wp P1 a1)) (h2 : WX X c Γ m2 e2 (Wp P2 a2)) (h3 : WX X c Γ m3 e3 (Wp P3 a3)) (h4 : WX X c Γ m4 e4 (Wp P4 a4)) (hj : j ≤ n := by decide) (hg : Gl X x := by rfl) (s0 : starEach [e0, e1, e2, e3, e4] X.env = (false, eval e0 X.env) :: starEach [e1, e2, e3, e4] X.env := by rfl) (s1 : starEach [e1, e2, e3, e4] X.env = (false, eval e1 X.env) :: starEach [e2, e3, e4] X.env := by rfl) (s2 : starEach [e2, e3, e4] X.env = (false, eval e2 X.env) :: starEach [e3, e4] X.env := by rfl) (s3 : starEach [e3, e4] X.env = (false, eval e3 X.env) :: starEach [e4] X.env := by rfl) (s4 : starEach [e4] X.env = (false, eval e4 X.env) :: starEach [] X.env := by rfl) (hdb : (x == ("__debug__" : Str)) = false := by decide) (hpl : (backTo pos (starEach [e1, e2, e3, e4] X.env)).any (·.1) = false := by rfl) :
    WR X c Γ (.Call (.Name x p) [e0, e1, e2, e3, e4] [] pos) (Wp (P0 ∧ P1 ∧ P2 ∧ P3 ∧ P4 ∧ P a0 a1 a2 a3 a4) (g a0 a1 a2 a3 a4)) :=
  (wr_c5 C hr (fun a0 a1 a2 a3 a4 => mono_wp) h0 h1 h2 h3 h4 hj hg s0 s1 s2 s3 s4 hdb hpl).imp (fun Q q => ⟨q.1.1, q.1.2.1, q.1.2.2.1, q.1.2.2.2.1, q.1.2.2.2.2.1, q.1.2.2.2.2.2, q.2⟩) mono_wp
end
end DL

namespace DL
open PySem PySem.Spec PyProof.Rows L2
open Enc (enc)
section
variable {α β γ δ ρ ς ς1 : Type} [Enc α] [Enc β] [Enc γ] [Enc δ] [Enc ρ]
variable {X : Cx} {c : Cf} {Γ Γ' : List LD} {m m' m1 m2 rm : Rk} {e e1 e2 e3 e4 tg : Expr} {es : List Expr} {pos p p2 p3 px apos cpos : Pos} {k k1 : Bool} {x y : Str}
/-- a slot is put to no use -/
theorem Rep.setNo {Z : Rgn} {S : Nat → Rgn} {H : Hp} {σ : L2.St} {j : Nat} {v : Option V} (R : Rep c Z S H σ Γ) : Rep c Z S H (σ.set j v) (Γ.set j .no) := by
  refine ⟨fun k l q => ?_, R.disj, R.zs, R.dom, R.feed, by simpa using R.len, R.zf⟩
  by_cases hk : k = j
  · subst hk
    by_cases hl : k < Γ.length
    · rw [List.getElem?_set_self hl] at q
      cases q
      trivial
    · rw [List.getElem?_eq_none (by simpa using hl)] at q
      cases q
  · rw [List.getElem?_set_ne (Ne.symm hk)] at q ⊢
    exact R.slot k l q
theorem Rep.less' {Z : Rgn} {S : Nat → Rgn} {H : Hp} {σ : L2.St} (R : Rep c Z S H σ Γ) (hl : Γ'.length = Γ.length) (h : ∀ (i : Nat) (l : LD), Γ'[i]? = some l → l = LD.no ∨ Γ[i]? = some l) : Rep c Z S H σ Γ' :=
  ⟨fun i l q => by
    rcases h i l q with rfl | e
    · trivial
    · exact R.slot i l e, R.disj, R.zs, R.dom, R.feed, by rw [hl]; exact R.len, R.zf⟩
theorem set_no1 {i : Nat} {l : LD} (h : (Γ.set i .no)[i]? = some l) : l = .no := by
  by_cases hl : i < Γ.length
  · rw [List.getElem?_set_self hl] at h
    cases h
    rfl
  · rw [List.getElem?_eq_none (by simpa using hl)] at h
    cases h
theorem set_no {i k : Nat} {l : LD} (h : (Γ.set i .no)[k]? = some l) : l = .no ∨ Γ[k]? = some l := by
  by_cases hk : k = i
  · subst hk
    by_cases hl : k < Γ.length
    · rw [List.getElem?_set_self hl] at h
      cases h
      exact .inl rfl
    · rw [List.getElem?_eq_none (by simpa using hl)] at h
      cases h
  · rw [List.getElem?_set_ne (Ne.symm hk)] at h
    exact .inr h
/-- for y in x: y.append(n): what holds x is not looked at any more -/
theorem bx_pokeEach {G : ς → List LD} {rest : List Stmt} {Wr : (ς → Prop) → (ρ → Prop) → Prop} {st : Stmt} {n : Int} (i j : Nat) {xs : List (List Int)}
    (h : PS X st (tFor (iList X.K (tVar i)) (gName j) (tDrop (tBM X.K "list" rAppend (tVar j) (tCons (tC (.int n)) tNil))))) (hr : BX X c rm G ((Γ.set i .no).set j .no) rest Wr) (hΓ : Γ[i]? = some (.frs (enc xs)) := by rfl) (hij : j ≠ i := by decide) (hj : j < Γ.length := by exact Nat.le_of_ble_eq_true rfl) :
    BX X c rm G Γ (st :: rest) (fun N R => (∀ ys ∈ xs, ys.length + xs.length < sizeLine) ∧ Wr N R) :=
  ⟨fun N N' R R' kn kr w => ⟨w.1, hr.mo _ _ _ _ kn kr w.2⟩, PSs.mono (pss_cons h hr.run) fun D σ H ⟨Z, S, R, w⟩ => by
    obtain ⟨v, ev, d⟩ := R.slot i _ hΓ
    cases (d : DA _ H v (.list (xs.map enc))) with
    | @lst l vs _ al r z ds =>
      have hlen : vs.length = xs.length := by rw [ds.length, List.length_map]
      have nl : ∀ u ∈ vs, ∃ a us, u = .ref a ∧ S i a ∧ a ≠ l ∧ H a = some (.lst us) ∧ us.length + vs.length < sizeLine := fun u hu => by
        obtain ⟨k, hk⟩ := List.getElem?_of_mem hu
        have hkl := (List.getElem?_eq_some_iff.mp hk).1
        have hx : (xs.map enc)[k]? = some (enc xs[k]) := by rw [List.getElem?_map, List.getElem?_eq_getElem (by omega)]; rfl
        obtain ⟨u', e', du⟩ := ds.get' hx
        rw [hk] at e'
        cases e'
        cases (du : DA _ H u (.list (xs[k].map enc))) with
        | @lst a us _ al2 r2 z2 ds2 =>
          have hl2 : us.length = (xs[k]).length := by rw [ds2.length, List.length_map]
          refine ⟨a, us, rfl, al2, fun e => ?_, r2, by rw [hl2, hlen]; exact w.1 _ (List.getElem_mem ..)⟩
          subst e
          rw [r] at r2
          cases r2
          have := DAs.ints (ns := xs[k]) ds2
          rw [this, List.getElem?_map] at hk
          cases e3 : (xs[k])[k]? with
          | none => rw [e3] at hk; cases hk
          | some q => rw [e3] at hk; cases hk
      refine ⟨_, ev, l, rfl, ⟨vs, SqL.of r⟩, for_list (K := X.K) (a := l) (xs := vs) (fun t σ' H' => t ≤ vs.length ∧ EvS c Z S H S H' ∧ Rep c Z S H' σ' ((Γ.set i .no).set j .no) ∧ H' l = some (.lst vs) ∧
        ∀ u ∈ vs, ∃ a us, u = .ref a ∧ S i a ∧ a ≠ l ∧ H' a = some (.lst us) ∧ us.length + vs.length < sizeLine + t) ?_ ?_ ?_ ?_⟩
      · refine ⟨Nat.zero_le _, .refl _ _ _ _, ?_, r, fun u hu => by simpa using nl u hu⟩
        exact R.less' (by simp) fun k l q => (set_no q).elim .inl fun q => set_no q
      · exact fun t σ' H' _ h => SqL.of h.2.2.2.1
      · rintro t u σ' H' hu ⟨ht, e1, R1, r1, hs⟩
        obtain ⟨a, us, rfl, sa, ne, ra, hz⟩ := hs u (List.mem_of_getElem? hu)
        have htl := (List.getElem?_eq_some_iff.mp hu).1
        have R2 := R1.setNo (j := j) (v := some (.ref a))
        have hσ : (σ'.set j (some (.ref a)))[j]? = some (some (.ref a)) := List.getElem?_set_self (Nat.lt_of_lt_of_le (by simpa using hj) R1.len)
        obtain ⟨e3, R3⟩ := Rep.poke (i := i) (vs' := us ++ [.int n]) R2 sa ra
        refine ⟨_, hσ, .inl ⟨rfl, _, SqL.of ra⟩, a, us, _, rfl, rfl, ra, by omega, by omega, e1.trans e3, ?_, by rw [upd_ne (Ne.symm ne)]; exact r1, fun u hu => ?_⟩
        · exact R3.less' (by simp) fun k l q => by
            by_cases hki : k = i
            · subst hki
              rw [List.getElem?_set_ne hij] at q
              exact .inl (set_no1 q)
            · by_cases hkj : k = j
              · subst hkj
                exact .inl (set_no1 q)
              · rw [List.getElem?_set_ne (Ne.symm hkj), List.getElem?_set_ne (Ne.symm hki)] at q
                exact .inr (by rw [List.getElem?_set_ne (Ne.symm hki), List.getElem?_set_ne (Ne.symm hkj), List.getElem?_set_ne (Ne.symm hkj), List.getElem?_set_ne (Ne.symm hki)]; exact q)
        · obtain ⟨b, ws, rfl, sb, nb, rb, hzb⟩ := hs u hu
          by_cases hab : b = a
          · subst hab
            rw [ra] at rb
            cases rb
            exact ⟨_, _, rfl, sb, nb, upd_same, by rw [List.length_append, List.length_singleton]; omega⟩
          · exact ⟨b, ws, rfl, sb, nb, by rw [upd_ne hab]; exact rb, by omega⟩
      · rintro σ' H' ⟨_, e1, R1, _, _⟩
        exact tB_at hr.mo e1 R1 w.2⟩
end
end DL

namespace DL
open PySem PySem.Spec PyProof.Rows L2
open Enc (enc)
section
variable {α β γ δ ρ ς ς1 : Type} [Enc α] [Enc β] [Enc γ] [Enc δ] [Enc ρ]
variable {X : Cx} {c : Cf} {Γ Γ' : List LD} {m m' m1 m2 rm : Rk} {e e1 e2 e3 e4 tg it : Expr} {es : List Expr} {pos p p2 p3 px apos cpos rp ip : Pos} {k k1 : Bool} {x y : Str}
theorem lookup_map_snd {β γ : Type} (h : Str → β → γ) (y : Str) : ∀ l : List (Str × β), List.lookup y (l.map fun x => (x.1, h x.1 x.2)) = (List.lookup y l).map (h y)
  | [] => rfl
  | (n, k) :: l => by
    simp only [List.map_cons, List.lookup_cons]
    by_cases e : y = n
    · subst e; simp
    · have : (y == n) = false := by simpa using e
      simp only [this]
      exact lookup_map_snd h y l
theorem blkC_relabel {N : List Str} {sc scope : Scope} {own : List (Str × Nat)} {env : Env} (h : blkC N sc scope own = true) : blkC N (relabel sc env) scope own = true := by
  unfold blkC at h ⊢
  simp only [Bool.and_eq_true, List.all_eq_true] at h ⊢
  refine ⟨h.1, fun y hy => ?_⟩
  have := h.2 y hy
  obtain ⟨g, hg, hg2⟩ : ∃ g : Str → NameKind → NameKind, (∀ n k, g n k = if (k == NameKind.free && env.scope.kind == ScopeKind.function && env.kindOf n == some NameKind.cell) = true then NameKind.cell else k) ∧ True := ⟨fun n k => _, fun n k => rfl, trivial⟩
  have hf : (relabel sc env).names = sc.names.map fun x => (x.1, g x.1 x.2) := by
    unfold relabel
    refine List.map_congr_left fun x _ => ?_
    obtain ⟨n, k⟩ := x
    simp only [hg]
    split <;> rfl
  cases e : y.2 with
  | free =>
    rw [e] at this
    simp only at this ⊢
    rw [hf, lookup_map_snd g]
    cases e2 : List.lookup y.1 sc.names with
    | none => rw [e2] at this; exact this
    | some k =>
      rw [e2] at this
      rw [Option.map_some, hg]
      by_cases hc : (k == NameKind.free && env.scope.kind == ScopeKind.function && env.kindOf y.1 == some NameKind.cell) = true
      · rw [if_pos hc]
      · rw [if_neg hc]
        exact this
  | _ => (rw [e] at this; try exact this)
theorem blkOk_bk {N : List Str} {scope1 scope : Scope} {own : List (Str × Nat)} {s : Shared} {H : Hp} {C : Addr} {cl : List (Str × Addr)} {fp : List Addr} (h : blkC N scope1 scope own = true) : BlkOk N (Bk X scope1 s H C cl fp).env.scope scope own := blkOk_by (blkC_relabel h)
theorem bx_setP {G : ς → List LD} {i : Nat} {st : Stmt} {rest : List Stmt} {W : (List α → Prop) → Prop} {Wr : List α → (ς → Prop) → (ρ → Prop) → Prop} (h : AS X i st (tN c Γ m W) ∧ Mono W) (hr : ∀ a : List α, BX X c rm G (Γ.set i (.d m (enc a))) rest (Wr a)) (nm : m ≠ .any := by decide) :
    BX X c rm G Γ (st :: rest) (fun N R => W fun a => Wr a N R) := bx_set (AS.d h.1 h.2) h.2 hr nm
theorem bx_setOP {G : ς → List LD} {i : Nat} {st : Stmt} {rest : List Stmt} {W : (List α → Prop) → Prop} {Wr : List α → (ς → Prop) → (ρ → Prop) → Prop} (h : AS X i st (tN c Γ m W) ∧ Mono W) (hr : ∀ a : List α, BX X c rm G (Γ.set i (.own m (a.map enc))) rest (Wr a)) (nm : m ≠ .any := by decide) :
    BX X c rm G Γ (st :: rest) (fun N R => W fun a => Wr a N R) := bx_setO h.1 h.2 hr nm
/-! ## for .. : if ..: return .. -/
structure KT (c : Cf) (Γ : List LD) (vs : List Nat) (m : Rk) (g : TG) (Γe : α → List LD) : Prop where
  run : ∀ (Z : Rgn) (S : Nat → Rgn) (H : Hp) (σ : L2.St) (v : V) (a : α) (Q : L2.St → Hp → Prop), Rep c Z S H σ Γ → DA (Rg c (Mo c Z S) m) H v (enc a) → (∀ σ2, Rep c Z S H σ2 (Γe a) → σ2.length = σ.length → (∀ j, j ∉ vs → σ2[j]? = σ[j]?) → Q σ2 H) → g v σ H Q
theorem kt_name (i : Nat) (nm : m ≠ .any := by decide) : KT c Γ [i] m (gName i) (fun a : α => Γ.set i (.d m (enc a))) :=
  ⟨fun Z S H σ v a Q R d q => q _ (R.set nm d) (by simp) fun j hj => List.getElem?_set_ne (fun e => hj (by simp [e]))⟩
theorem kt_pair {K : PySem.W.Frag} (i j : Nat) (nm : m ≠ .any := by decide) : KT c Γ [i, j] m (gTup K 2 (gCons (gName i) (gCons (gName j) gNil))) (fun a : α × β => (Γ.set i (.d m (enc a.1))).set j (.d m (enc a.2))) :=
  ⟨fun Z S H σ v a Q R d q => by
    cases (d : DA _ H v (.tuple [enc a.1, enc a.2])) with
    | @tup t vs _ r z hs =>
      cases hs with
      | @cons v1 _ _ _ h1 hs =>
        cases hs with
        | @cons v2 _ _ _ h2 hs =>
          cases hs
          exact ⟨t, _, rfl, SqT.of r, rfl, v1, _, rfl, v2, _, rfl, rfl, q _ ((R.set nm h1).set nm h2) (by simp) fun k hk => by
            rw [List.getElem?_set_ne (fun e => hk (by simp [e])), List.getElem?_set_ne (fun e => hk (by simp [e]))]⟩⟩
def forIfW (Wt : α → (Bool → Prop) → Prop) (We : α → (ρ → Prop) → Prop) : List α → Prop → (ρ → Prop) → Prop
  | [], N, _ => N
  | x :: xs, N, R => Wt x fun b => if b = true then We x R else forIfW Wt We xs N R
theorem forIfW_mono {Wt : α → (Bool → Prop) → Prop} {We : α → (ρ → Prop) → Prop} (mt : ∀ x, Mono (Wt x)) (me : ∀ x, Mono (We x)) {N N' : Prop} {R R' : ρ → Prop} (kn : N → N') (kr : ∀ r, R r → R' r) : ∀ xs : List α, forIfW Wt We xs N R → forIfW Wt We xs N' R'
  | [], w => kn w
  | x :: xs, w => mt x _ _ (fun b w => by
      cases b with
      | true => exact me x _ _ kr w
      | false => exact forIfW_mono mt me kn kr xs w) w
/-- no turn returns -/
theorem forIf_no {Wt : α → (Bool → Prop) → Prop} {We : α → (ρ → Prop) → Prop} (mt : ∀ x, Mono (Wt x)) {N : Prop} {R : ρ → Prop} (n : N) : ∀ xs : List α, (∀ x ∈ xs, Wt x fun b => b = false) → forIfW Wt We xs N R
  | [], _ => n
  | x :: xs, h => mt x _ _ (fun b e => by subst e; exact forIf_no mt n xs fun y hy => h y (List.mem_cons_of_mem _ hy)) (h x (List.mem_cons_self ..))
/-- pure tests -/
theorem forIf_p {P : α → Prop} {b : α → Bool} {We : α → (ρ → Prop) → Prop} {N : Prop} {R : ρ → Prop} : ∀ xs : List α, (∀ x ∈ xs, P x) → (∀ x ∈ xs, b x = true → We x R) → ((∀ x ∈ xs, b x = false) → N) → forIfW (fun x => Wp (P x) (b x)) We xs N R
  | [], _, _, h => h (fun _ h => nomatch h)
  | x :: xs, h1, h2, h3 => ⟨h1 x (List.mem_cons_self ..), by
      cases e : b x with
      | true => exact h2 x (List.mem_cons_self ..) e
      | false => exact forIf_p xs (fun y hy => h1 y (List.mem_cons_of_mem _ hy)) (fun y hy => h2 y (List.mem_cons_of_mem _ hy)) fun h => h3 fun y hy => (List.mem_cons.mp hy).elim (fun q => q ▸ e) (h y)⟩
theorem wipeG_get {k : Nat} {l : LD} : ∀ (vs : List Nat), (wipeG Γ vs)[k]? = some l → l = .no ∨ (k ∉ vs ∧ Γ[k]? = some l)
  | [], h => .inr ⟨by simp, h⟩
  | v :: vs, h => by
    by_cases hk : k = v
    · subst hk
      exact .inl (set_no1 h)
    · rcases set_no h with h | h
      · exact .inl h
      · rcases wipeG_get vs h with h | ⟨h1, h2⟩
        · exact .inl h
        · exact .inr ⟨by simp [hk, h1], h2⟩
theorem wipeG_len : ∀ vs : List Nat, (wipeG Γ vs).length = Γ.length
  | [] => rfl
  | v :: vs => by show ((wipeG Γ vs).set v .no).length = _; rw [List.length_set]; exact wipeG_len vs
theorem Rep.agree {Z : Rgn} {S : Nat → Rgn} {H : Hp} {σ σ2 : L2.St} {vs : List Nat} (R : Rep c Z S H σ Γ) (hl : σ2.length = σ.length) (h : ∀ j, j ∉ vs → σ2[j]? = σ[j]?) : Rep c Z S H σ2 (wipeG Γ vs) :=
  ⟨fun i l q => by
    rcases wipeG_get vs q with rfl | ⟨n, q⟩
    · trivial
    · rw [h i n]
      exact R.slot i l q, R.disj, R.zs, R.dom, R.feed, by rw [wipeG_len, hl]; exact R.len, R.zf⟩
theorem bx_forIf {G : ς → List LD} {t : Expr} {rest : List Stmt} {vs : List Nat} {g : TG} {Γe : α → List LD} {Wi : (List α → Prop) → Prop} {Wt : α → (Bool → Prop) → Prop} {We : α → (ρ → Prop) → Prop} {Wr : (ς → Prop) → (ρ → Prop) → Prop}
    (hw : wk Γ Γ') (hi : WI X c Γ' true m1 tg it Wi) (hg : PG X tg g) (kt : KT c (wipeG Γ' vs) vs m1 g Γe) (ht : ∀ x, WT X c (Γe x) t (Wt x)) (he : ∀ x, WX X c (Γe x) rm e (We x)) (hr : BX X c rm G (wipeG Γ vs) rest Wr) (hp : PassesOwn (model X.prog X.w) X.A X.env X.xe) (hc : X.calm = true := by rfl)
    (hs : ∀ x, foldedSetIterable it X.env x = pure x := by intro _; rfl) : BX X c rm G Γ (.For tg it [.If t [.Return (some e) rp] [] ip] [] pos :: rest) (fun N R => Wi fun xs => forIfW Wt We xs (Wr N R) R) := by
  have mt : ∀ x, Mono (Wt x) := fun x => (ht x).mo
  have me : ∀ x, Mono (We x) := fun x => (he x).mo
  refine ⟨fun N N' R R' kn kr w => hi.mo _ _ (fun xs w => forIfW_mono mt me (fun w => hr.mo _ _ _ _ kn kr w) kr xs w) w, ?_⟩
  refine PSs.mono (pss_cons (ps_for hp hc hi.run hg (PSs.ex fun x => pss_one (ps_if (ht x).run (pss_one (ps_ret (he x).run)) pss_nil)) hs) hr.run) fun D σ H ⟨Z, S, R, w⟩ => ?_
  obtain ⟨S1, hs1, R1⟩ := R.wk hw
  refine ⟨Z, S1, R1, hi.mo _ _ (fun xs w J H1 ev1 R2 hz yl => ?_) w⟩
  have back : ∀ {H2 : Hp} {σ2 : L2.St} {Γ2 : List LD}, Evo (fa c) H1 H2 → Rep c Z S1 H2 σ2 Γ2 → Rep c Z S1 H2 σ Γ' := fun ev R' => R2.step ev fun F q => (R'.feed F q).1
  have back0 : ∀ {H2 : Hp} {σ2 : L2.St} {Γ2 : List LD}, Evo (fa c) H1 H2 → Rep c Z S1 H2 σ2 Γ2 → Rep c Z S H2 σ Γ := fun ev R' => R.step (ev1.trans ev fun a z => .inl z) fun F q => (R'.feed F q).1
  have evS : ∀ {H2 : Hp}, Evo (fa c) H1 H2 → EvS c Z S H S1 H2 := fun ev => ⟨(ev1.trans ev fun a z => .inl z).mono fun a => mo_fa, fun a z => .inl (z.imp id fun z => z.imp (fun ⟨i, z⟩ => ⟨i, hs1 i a z⟩) id)⟩
  refine ⟨fun i n σ2 H2 => n = xs.length - i ∧ i ≤ xs.length ∧ Evo (fa c) H1 H2 ∧ Rep c Z S1 H2 σ Γ' ∧ σ2.length = σ.length ∧ (∀ j, j ∉ vs → σ2[j]? = σ[j]?) ∧
    forIfW Wt We (xs.drop i) (Wr (fun s => ∀ σ' H' S', EvS c Z S H S' H' → Rep c Z S' H' σ' (G s) → D.nx σ' H') (fun r => ∀ v H' S', EvS c Z S H S' H' → Rep c Z S' H' [] [] → DA (Rg c (Mo c Z S') rm) H' v (enc r) → D.rt v H'))
      (fun r => ∀ v H' S', EvS c Z S H S' H' → Rep c Z S' H' [] [] → DA (Rg c (Mo c Z S') rm) H' v (enc r) → D.rt v H'), ⟨xs.length, by simp, Nat.zero_le _, .refl _ _, R2, rfl, fun _ _ => rfl, by simpa using w⟩, ?_⟩
  rintro i n σ2 H2 ⟨rfl, hi', ev2, R3, hl, ha, w⟩
  obtain ⟨y1, y2⟩ := yl H2 (show Evo (Mk' c (Mo c Z S1) true) H1 H2 from ev2)
  by_cases hlt : i < xs.length
  · right
    have ex : (xs.map enc)[i]? = some (enc xs[i]) := by rw [List.getElem?_map, List.getElem?_eq_getElem hlt]; rfl
    obtain ⟨go, yy⟩ := y1 i _ ex
    rw [List.drop_eq_getElem_cons hlt] at w
    refine ⟨go, fun σ3 H3 => Evo (fa c) H1 H3 ∧ Rep c Z S1 H3 σ Γ' ∧ σ3.length = σ.length ∧ (∀ j, j ∉ vs → σ3[j]? = σ[j]?) ∧ forIfW Wt We (xs.drop (i + 1)) (Wr (fun s => ∀ σ' H' S', EvS c Z S H S' H' → Rep c Z S' H' σ' (G s) → D.nx σ' H') (fun r => ∀ v H' S', EvS c Z S H S' H' → Rep c Z S' H' [] [] → DA (Rg c (Mo c Z S') rm) H' v (enc r) → D.rt v H'))
      (fun r => ∀ v H' S', EvS c Z S H S' H' → Rep c Z S' H' [] [] → DA (Rg c (Mo c Z S') rm) H' v (enc r) → D.rt v H'), fun σ' H' p => ⟨_, by omega, rfl, hlt, p⟩, fun v H3 y => ?_⟩
    obtain ⟨sm3, d3⟩ := yy v H3 y
    have ev13 : Evo (fa c) H1 H3 := ev2.trans (.of_same sm3) fun a z => .inl z
    have R4 := (R3.same sm3).agree hl ha
    have d3' : DA (Rg c (Mo c Z S1) m1) H3 v (enc xs[i]) := DA.map (fun a us ha r => ⟨ha.1, r⟩) (fun _ _ r => r) _ d3
    refine kt.run Z S1 H3 σ2 v xs[i] _ R4 d3' fun σ4 R5 hl4 ha4 => ⟨xs[i], ?_⟩
    refine ⟨Z, S1, R5, mt _ _ _ (fun b w H5 ev5 R6 => ?_) w⟩
    have ev15 := ev13.trans ev5 fun a z => .inl z
    cases b with
    | true =>
      exact ⟨Z, S1, R6, me _ _ _ (fun r q u H6 ev6 R7 d6 => q u H6 S1 (evS (ev15.trans ev6 fun a z => .inl z)) R7.bare d6) w⟩
    | false => exact ⟨ev15, back ev15 R6, by rw [hl4, hl], fun j hj => by rw [ha4 j hj, ha j hj], w⟩
  · left
    have e : i = xs.length := by omega
    subst e
    rw [List.drop_length] at w
    refine ⟨by simpa using y2, tB_at (S1 := S) hr.mo (.of_fa (ev1.trans ev2 fun a z => .inl z)) ((back0 ev2 R3).agree hl ha) w⟩
end
end DL

namespace DL
open PySem PySem.Spec PyProof.Rows L2
open Enc (enc)
/-! ## rng, indices -/
theorem mem_rng {lo hi i : Int} : i ∈ rng lo hi ↔ lo ≤ i ∧ i < hi := by
  unfold rng
  simp only [List.mem_map, List.mem_range]
  constructor
  · rintro ⟨k, hk, rfl⟩; omega
  · intro h; exact ⟨(i - lo).toNat, by omega, by omega⟩
theorem rng_get {lo hi : Int} {k : Nat} (h : k < (hi - lo).toNat) : (rng lo hi)[k]? = some (lo + (k : Int)) := by
  unfold rng
  rw [List.getElem?_map, List.getElem?_range h]
  rfl
theorem rng_nil {lo hi : Int} (h : hi ≤ lo) : rng lo hi = [] := by
  have : (hi - lo).toNat = 0 := by omega
  unfold rng
  rw [this]
  rfl
theorem rng_cons {lo hi : Int} (h : lo < hi) : rng lo hi = lo :: rng (lo + 1) hi := by
  refine List.ext_getElem? fun k => ?_
  cases k with
  | zero => rw [rng_get (by omega)]; simp
  | succ k =>
    rw [List.getElem?_cons_succ]
    by_cases hk : k + 1 < (hi - lo).toNat
    · rw [rng_get hk, rng_get (by omega)]
      congr 1
      omega
    · rw [List.getElem?_eq_none (by rw [rng_length]; omega), List.getElem?_eq_none (by rw [rng_length]; omega)]
theorem rng_nodup (lo hi : Int) : (rng lo hi).Nodup := by
  unfold rng List.Nodup
  rw [List.pairwise_map]
  exact List.Pairwise.imp (fun h e => h (by omega)) (List.nodup_range (n := (hi - lo).toNat))
theorem rng_len0 {n : Int} (h : 0 ≤ n) : ((rng 0 n).length : Int) = n := by rw [rng_length]; omega
section
variable {α β γ ς ρ : Type}
theorem gIx_get [Inhabited α] {xs : List α} {i : Int} (h : cIx xs i) : xs[i.toNat]? = some (gIx xs i) := by
  obtain ⟨h1, h2⟩ := h
  have hj : i.toNat < xs.length := by omega
  show _ = some (xs.getD i.toNat default)
  rw [List.getD_eq_getElem?_getD, List.getElem?_eq_getElem hj]
  rfl
theorem gIx_mem [Inhabited α] {xs : List α} {i : Int} (h : cIx xs i) : gIx xs i ∈ xs := List.mem_of_getElem? (gIx_get h)
theorem gIx_nat [Inhabited α] {xs : List α} {k : Nat} {x : α} (h : xs[k]? = some x) : gIx xs (k : Int) = x := by
  show xs.getD ((k : Int)).toNat default = x
  rw [Int.toNat_natCast, List.getD_eq_getElem?_getD, h]
  rfl
theorem map_gIx [Inhabited α] (xs : List α) : (rng 0 (xs.length : Int)).map (gIx xs) = xs := by
  refine List.ext_getElem? fun k => ?_
  rw [List.getElem?_map]
  by_cases hk : k < xs.length
  · rw [rng_get (by omega)]
    show some (gIx xs (0 + (k : Int))) = _
    rw [Int.zero_add, List.getElem?_eq_getElem hk, gIx_nat (List.getElem?_eq_getElem hk)]
  · rw [List.getElem?_eq_none (by rw [rng_length]; omega), List.getElem?_eq_none (by omega)]
    rfl
theorem perm_erase : ∀ {xs : List α} {k : Nat} {x : α}, xs[k]? = some x → (x :: xs.eraseIdx k).Perm xs
  | y :: ys, 0, x, h => by simp at h; subst h; exact .refl _
  | y :: ys, k + 1, x, h => by
    have := perm_erase (xs := ys) (k := k) (by simpa using h)
    simp only [List.eraseIdx_cons_succ]
    exact (List.Perm.swap y x _).trans (this.cons y)
/-! ## loops -/
theorem forW_cps {Wb : α → ς → (ς → Prop) → (ρ → Prop) → Prop} {R : ρ → Prop} : ∀ (xs : List α) (I : Nat → ς → Prop) (s0 : ς) {N : ς → Prop}, I 0 s0 →
    (∀ i s x (N' : ς → Prop), xs[i]? = some x → I i s → (∀ s', I (i + 1) s' → N' s') → Wb x s N' R) → (∀ s, I xs.length s → N s) → forW Wb xs s0 N R
  | [], I, s0, N, h0, hs, hN => hN _ h0
  | x :: xs, I, s0, N, h0, hs, hN => hs 0 s0 x _ rfl h0 fun s' h' => forW_cps xs (fun i => I (i + 1)) s' h' (fun i s y N' hy hI k => hs (i + 1) s y N' (by simpa using hy) hI k) fun s h => hN s h
theorem forW_app {P : α → List β → Prop} {g : α → List β} {N : List β → Prop} {R : ρ → Prop} : ∀ (xs : List α) (s0 : List β), (∀ i x, xs[i]? = some x → P x (s0 ++ (xs.take i).flatMap g)) → N (s0 ++ xs.flatMap g) →
    forW (fun x s N R => Wp (P x s) (s ++ g x) fun a => N a) xs s0 N R
  | [], s0, _, h => by
    show N s0
    simpa using h
  | x :: xs, s0, hp, h => ⟨by simpa using hp 0 x rfl, forW_app xs _ (fun i y hy => by simpa [List.append_assoc] using hp (i + 1) y (by simpa using hy)) (by simpa [List.append_assoc] using h)⟩
theorem forW_add {P : α → Prop} {g : α → Int} {N : Int → Prop} {R : ρ → Prop} : ∀ (xs : List α) (s0 : Int), (∀ x ∈ xs, P x) → N (s0 + (xs.map g).sum) → forW (fun x s N R => Wp (P x) (g x) fun d => N (s + d)) xs s0 N R
  | [], s0, _, h => by
    show N s0
    simpa using h
  | x :: xs, s0, hp, h => ⟨hp x (List.mem_cons_self ..), forW_add xs _ (fun y hy => hp y (List.mem_cons_of_mem _ hy)) (by
      have : s0 + g x + (xs.map g).sum = s0 + ((x :: xs).map g).sum := by rw [List.map_cons, List.sum_cons]; omega
      rw [this]; exact h)⟩
/-- elements with draws, no test -/
theorem lcW_all {We : α → (β → Prop) → Prop} : ∀ (xs : List α) (I : Nat → List β → Prop) (acc : List β) {Q : List β → Prop}, I 0 acc →
    (∀ i x ys (N : β → Prop), xs[i]? = some x → I i ys → (∀ y, I (i + 1) (ys ++ [y]) → N y) → We x N) → (∀ ys, I xs.length ys → Q ys) → lcW (fun _ => Wp True true) We xs acc Q
  | [], I, acc, Q, h0, hs, hQ => hQ _ h0
  | x :: xs, I, acc, Q, h0, hs, hQ => ⟨trivial, by
      show (if true = true then _ else _)
      rw [if_pos rfl]
      exact hs 0 x acc _ rfl h0 fun y hy => lcW_all xs (fun i => I (i + 1)) (acc ++ [y]) hy (fun i z ys N hz hI k => hs (i + 1) z ys N (by simpa using hz) hI k) fun ys h => hQ ys h⟩
/-- tests by a draw: any part of the list -/
theorem lcW_part {Wt : α → (Bool → Prop) → Prop} (ht : ∀ x (N : Bool → Prop), N true → N false → Wt x N) : ∀ (xs : List α) (acc : List α) {Q : List α → Prop}, (∀ ys, ys.Sublist xs → Q (acc ++ ys)) → lcW Wt (fun x => Wp True x) xs acc Q
  | [], acc, Q, h => by
    show Q acc
    simpa using h [] (List.Sublist.refl _)
  | x :: xs, acc, Q, h => ht x _ (by
      show (if true = true then _ else _)
      rw [if_pos rfl]
      exact ⟨trivial, lcW_part ht xs (acc ++ [x]) fun ys hy => by simpa [List.append_assoc] using h (x :: ys) (hy.cons₂ x)⟩) (by
      show (if false = true then _ else _)
      rw [if_neg Bool.false_ne_true]
      exact lcW_part ht xs acc fun ys hy => h ys (hy.cons x))
end
/-! ## sums -/
theorem sum_map_zero {α : Type} {f : α → Int} : ∀ {xs : List α}, (∀ x ∈ xs, f x = 0) → (xs.map f).sum = 0
  | [], _ => rfl
  | x :: xs, h => by rw [List.map_cons, List.sum_cons, h x (List.mem_cons_self ..), sum_map_zero fun y hy => h y (List.mem_cons_of_mem _ hy)]; rfl
theorem sum_addm {α : Type} (f g : α → Int) : ∀ xs : List α, (xs.map fun x => f x + g x).sum = (xs.map f).sum + (xs.map g).sum
  | [] => rfl
  | x :: xs => by simp only [List.map_cons, List.sum_cons, sum_addm f g xs]; omega
theorem sum_map_mul {α : Type} (c : Int) (f : α → Int) : ∀ xs : List α, (xs.map fun x => c * f x).sum = c * (xs.map f).sum
  | [] => by simp
  | x :: xs => by simp only [List.map_cons, List.sum_cons, sum_map_mul c f xs, Int.mul_add]
theorem sum_map_congr {α : Type} {f g : α → Int} {xs : List α} (h : ∀ x ∈ xs, f x = g x) : (xs.map f).sum = (xs.map g).sum := by rw [List.map_congr_left h]
/-- a sum with one place that counts -/
theorem sum_one {α : Type} {f : α → Int} {a : α} : ∀ {xs : List α}, xs.Nodup → a ∈ xs → (∀ x ∈ xs, x ≠ a → f x = 0) → (xs.map f).sum = f a
  | [], _, h, _ => nomatch h
  | x :: xs, nd, h, hz => by
    rw [List.map_cons, List.sum_cons]
    obtain ⟨n1, n2⟩ := List.nodup_cons.mp nd
    by_cases e : x = a
    · subst e
      rw [sum_map_zero fun y hy => hz y (List.mem_cons_of_mem _ hy) fun e => n1 (e ▸ hy)]
      omega
    · have ha : a ∈ xs := (List.mem_cons.mp h).resolve_left fun q => e q.symm
      rw [hz x (List.mem_cons_self ..) e, sum_one n2 ha fun y hy => hz y (List.mem_cons_of_mem _ hy)]
      omega
theorem sum_swap {α β : Type} (f : α → β → Int) (ys : List β) : ∀ xs : List α, (xs.map fun x => (ys.map fun y => f x y).sum).sum = (ys.map fun y => (xs.map fun x => f x y).sum).sum
  | [] => by simp [sum_map_zero]
  | x :: xs => by
    simp only [List.map_cons, List.sum_cons]
    rw [sum_swap f ys xs, ← sum_addm]
theorem sum_flat {α : Type} (f : α → List Int) : ∀ xs : List α, (xs.flatMap f).sum = (xs.map fun x => (f x).sum).sum
  | [] => rfl
  | x :: xs => by rw [List.flatMap_cons, List.sum_append, List.map_cons, List.sum_cons, sum_flat f xs]
theorem sum_perm {xs ys : List Int} (h : xs.Perm ys) : xs.sum = ys.sum := by
  induction h with
  | nil => rfl
  | cons x _ ih => rw [List.sum_cons, List.sum_cons, ih]
  | swap x y l => simp only [List.sum_cons]; omega
  | trans _ _ h1 h2 => rw [h1, h2]
theorem sum_nonneg : ∀ {xs : List Int}, (∀ x ∈ xs, 0 ≤ x) → 0 ≤ xs.sum
  | [], _ => Int.le_refl _
  | x :: xs, h => by
    have h1 := h x (List.mem_cons_self ..)
    have h2 := sum_nonneg fun y hy => h y (List.mem_cons_of_mem _ hy)
    rw [List.sum_cons]; omega
/-! ## webs, as the laws draw them -/
def Tn (n : Int) (ties : List (Int × Int)) : Prop := ties.Nodup ∧ ∀ p ∈ ties, 0 ≤ p.1 ∧ p.1 < p.2 ∧ p.2 < n
def Web (n : Int) (ties : List (Int × Int)) : Prop := Tn n ties ∧ ties.Pairwise fun a b => leP a b = true
def pairsL (n : Int) : List (Int × Int) := (rng 0 n).flatMap fun i => (rng (i + 1) n).map (Prod.mk i)
theorem mem_pairsL {n : Int} {p : Int × Int} : p ∈ pairsL n ↔ 0 ≤ p.1 ∧ p.1 < p.2 ∧ p.2 < n := by
  unfold pairsL
  simp only [List.mem_flatMap, List.mem_map, mem_rng]
  constructor
  · rintro ⟨i, hi, j, hj, rfl⟩; exact ⟨hi.1, by show i < j; omega, hj.2⟩
  · intro h; exact ⟨p.1, by omega, p.2, by omega, rfl⟩
theorem nodup_map {α β : Type} {f : α → β} : ∀ {xs : List α}, xs.Nodup → (∀ x ∈ xs, ∀ y ∈ xs, f x = f y → x = y) → (xs.map f).Nodup
  | [], _, _ => .nil
  | x :: xs, nd, h => by
    obtain ⟨n1, n2⟩ := List.nodup_cons.mp nd
    rw [List.map_cons]
    refine List.nodup_cons.mpr ⟨fun hm => ?_, nodup_map n2 fun y hy z hz => h y (List.mem_cons_of_mem _ hy) z (List.mem_cons_of_mem _ hz)⟩
    obtain ⟨y, hy, e⟩ := List.mem_map.mp hm
    have := h y (List.mem_cons_of_mem _ hy) x (List.mem_cons_self ..) e
    exact n1 (this ▸ hy)
theorem pairwise_flat {α β : Type} {R : β → β → Prop} {f : α → List β} : ∀ {xs : List α}, (∀ x ∈ xs, (f x).Pairwise R) → xs.Pairwise (fun x y => ∀ a ∈ f x, ∀ b ∈ f y, R a b) → (xs.flatMap f).Pairwise R
  | [], _, _ => .nil
  | x :: xs, h1, h2 => by
    obtain ⟨p1, p2⟩ := List.pairwise_cons.mp h2
    rw [List.flatMap_cons]
    refine List.pairwise_append.mpr ⟨h1 x (List.mem_cons_self ..), pairwise_flat (fun y hy => h1 y (List.mem_cons_of_mem _ hy)) p2, fun a ha b hb => ?_⟩
    obtain ⟨y, hy, hb⟩ := List.mem_flatMap.mp hb
    exact p1 y hy a ha b hb
theorem rng_lt (lo hi : Int) : (rng lo hi).Pairwise (· < ·) := by
  unfold rng
  rw [List.pairwise_map]
  exact List.Pairwise.imp (fun {a b} (h : a < b) => by show lo + (a:Int) < lo + (b:Int); omega) (List.pairwise_lt_range (n := (hi - lo).toNat))
theorem pairsL_nodup (n : Int) : (pairsL n).Nodup := by
  refine pairwise_flat (fun x _ => nodup_map (rng_nodup _ _) fun a _ b _ e => by simpa using e) (List.Pairwise.imp (fun {x y} (h : x < y) a ha b hb e => ?_) (rng_lt 0 n))
  obtain ⟨i, _, rfl⟩ := List.mem_map.mp ha
  obtain ⟨j, _, rfl⟩ := List.mem_map.mp hb
  have := congrArg Prod.fst e
  simp at this
  omega
theorem pairsL_srt (n : Int) : (pairsL n).Pairwise fun a b => leP a b = true := by
  refine pairwise_flat (fun x _ => ?_) (List.Pairwise.imp (fun {x y} (h : x < y) a ha b hb => ?_) (rng_lt 0 n))
  · rw [List.pairwise_map]
    exact List.Pairwise.imp (fun {a b} (h : a < b) => decide_eq_true (.inr ⟨rfl, Int.le_of_lt h⟩)) (rng_lt _ _)
  · obtain ⟨i, _, rfl⟩ := List.mem_map.mp ha
    obtain ⟨j, _, rfl⟩ := List.mem_map.mp hb
    exact decide_eq_true (.inl h)
theorem pairsL_tn (n : Int) : Tn n (pairsL n) := ⟨pairsL_nodup n, fun p hp => mem_pairsL.mp hp⟩
theorem flat_len {α β : Type} {f : α → List β} {k : Nat} : ∀ {xs : List α}, (∀ x ∈ xs, (f x).length ≤ k) → (xs.flatMap f).length ≤ xs.length * k
  | [], _ => by simp
  | x :: xs, h => by
    have h1 := h x (List.mem_cons_self ..)
    have h2 := flat_len fun y hy => h y (List.mem_cons_of_mem _ hy)
    rw [List.flatMap_cons, List.length_append, List.length_cons, Nat.succ_mul]
    omega
theorem Tn.sub {n : Int} {xs ys : List (Int × Int)} (h : Tn n xs) (s : ys.Sublist xs) : Tn n ys := ⟨h.1.sublist s, fun p hp => h.2 p (s.subset hp)⟩
theorem Tn.perm {n : Int} {xs ys : List (Int × Int)} (h : Tn n xs) (s : ys.Perm xs) : Tn n ys := ⟨s.nodup_iff.mpr h.1, fun p hp => h.2 p (s.subset hp)⟩
theorem Tn.srt {n : Int} {xs : List (Int × Int)} (h : Tn n xs) : Web n (srt leP xs) := ⟨h.perm (srt_perm leP xs), srt_srt leP_tot leP_tr xs⟩
theorem Web.sub {n : Int} {xs ys : List (Int × Int)} (h : Web n xs) (s : ys.Sublist xs) : Web n ys := ⟨h.1.sub s, h.2.sublist s⟩
def tieL (i j : Int) : Int × Int := (min i j, max i j)
def renL (ties : List (Int × Int)) (names : List Int) : List (Int × Int) := srt leP (ties.map fun p => tieL (gIx names p.1) (gIx names p.2))
/-- names: all numbers from 0 on, each once -/
def Nm (n : Int) (names : List Int) : Prop := names.Perm (rng 0 n)
theorem Nm.len {n : Int} {names : List Int} (h : Nm n names) : names.length = n.toNat := by rw [h.length_eq, rng_length]; omega
theorem Nm.ix {n : Int} {names : List Int} (h : Nm n names) {i : Int} (h0 : 0 ≤ i) (h1 : i < n) : cIx names i := ⟨h0, by rw [h.len]; omega⟩
theorem Nm.get {n : Int} {names : List Int} (h : Nm n names) {i : Int} (h0 : 0 ≤ i) (h1 : i < n) : 0 ≤ gIx names i ∧ gIx names i < n := mem_rng.mp (h.subset (gIx_mem (h.ix h0 h1)))
theorem Nm.inj {n : Int} {names : List Int} (h : Nm n names) {i j : Int} (i0 : 0 ≤ i) (i1 : i < n) (j0 : 0 ≤ j) (j1 : j < n) (e : gIx names i = gIx names j) : i = j := by
  have nd : names.Nodup := h.nodup_iff.mpr (rng_nodup 0 n)
  have ei := gIx_get (h.ix i0 i1)
  have ej := gIx_get (h.ix j0 j1)
  rw [e, ← ej] at ei
  have hl : i.toNat < names.length := by rw [h.len]; omega
  have := (List.getElem?_inj hl nd).mp ei
  omega
theorem renL_web {n : Int} {ties : List (Int × Int)} {names : List Int} (h : Tn n ties) (hn : Nm n names) : Web n (renL ties names) := by
  refine Tn.srt ⟨nodup_map h.1 fun p hp q hq e => ?_, fun p hp => ?_⟩
  · obtain ⟨p0, p1, p2⟩ := h.2 p hp
    obtain ⟨q0, q1, q2⟩ := h.2 q hq
    have e1 : min (gIx names p.1) (gIx names p.2) = min (gIx names q.1) (gIx names q.2) := congrArg Prod.fst e
    have e2 : max (gIx names p.1) (gIx names p.2) = max (gIx names q.1) (gIx names q.2) := congrArg Prod.snd e
    have c : (gIx names p.1 = gIx names q.1 ∧ gIx names p.2 = gIx names q.2) ∨ (gIx names p.1 = gIx names q.2 ∧ gIx names p.2 = gIx names q.1) := by omega
    rcases c with ⟨c1, c2⟩ | ⟨c1, c2⟩
    · exact Prod.ext (hn.inj p0 (by omega) q0 (by omega) c1) (hn.inj (by omega) p2 (by omega) q2 c2)
    · have d1 := hn.inj p0 (by omega) (by omega) q2 c1
      have d2 := hn.inj (by omega) p2 q0 (by omega) c2
      omega
  · obtain ⟨q, hq, rfl⟩ := List.mem_map.mp hp
    obtain ⟨q0, q1, q2⟩ := h.2 q hq
    have g1 := hn.get q0 (by omega)
    have g2 := hn.get (i := q.2) (by omega) q2
    have ne : gIx names q.1 ≠ gIx names q.2 := fun e => by
      have := hn.inj q0 (by omega) (by omega) q2 e
      omega
    show 0 ≤ min _ _ ∧ min _ _ < max _ _ ∧ max _ _ < n
    omega
theorem renL_len (ties : List (Int × Int)) (names : List Int) : (renL ties names).length = ties.length := by
  unfold renL
  rw [(srt_perm leP _).length_eq, List.length_map]
/-! ## the promises of the laws' own draws -/
def s_names : Int → (List Int → Prop) → Prop := fun n Q => (0 ≤ n ∧ n ≤ 1000) ∧ ∀ p, Nm n p → Q p
def s_many : Int → Int → (List (Int × Int) → Prop) → Prop := fun n m Q => (0 ≤ n ∧ n ≤ 100 ∧ -1000 ≤ m ∧ m ≤ 1000) ∧ ∀ t, Web n t → (t.length : Int) ≤ max m 0 → Q t
def s_shape : Int → Int → (List (Int × Int) → Prop) → Prop := fun n most Q => (0 ≤ n ∧ n ≤ 100 ∧ 0 ≤ most) ∧ ∀ t, Web n t → (t.length : Int) ≤ most → Q t
theorem ms_names : ∀ a, Mono (s_names a) := fun a Q Q' k h => ⟨h.1, fun x hx => k _ (h.2 x hx)⟩
theorem ms_many : ∀ a b, Mono (s_many a b) := fun a b Q Q' k h => ⟨h.1, fun x hx hy => k _ (h.2 x hx hy)⟩
theorem ms_shape : ∀ a b, Mono (s_shape a b) := fun a b Q Q' k h => ⟨h.1, fun x hx hy => k _ (h.2 x hx hy)⟩
theorem w_names {n : Int} {Q : List Int → Prop} {R : List Int → Prop} (h : s_names n Q) :
    forW (fun (x : Int) (s : List Int × List Int) N (R : List Int → Prop) => Wp (True ∧ True) (s.fst.length : Int) fun a0 => s_draw a0 fun k => cIx s.fst k ∧ (fun q : Int × List Int => s.snd.length < sizeLine ∧ N (q.snd, s.snd ++ [q.fst])) (gIx s.fst k, s.fst.eraseIdx k.toNat))
      (rng 0 n) (rng 0 n, []) (fun s => Wp True s.snd Q) R := by
  obtain ⟨⟨h0, h1⟩, h⟩ := h
  have hs := sizeLine_eq
  refine forW_cps _ (fun i s => (s.2 ++ s.1).Perm (rng 0 n) ∧ s.2.length = i) _ ⟨.refl _, rfl⟩ ?_ ?_
  · rintro i ⟨rest, order⟩ x N' hx ⟨hp, hl⟩ hN
    have hi := (List.getElem?_eq_some_iff.mp hx).1
    have hlen := hp.length_eq
    rw [rng_length] at hi hlen
    simp only [List.length_append] at hlen
    simp only at hl
    refine ⟨⟨trivial, trivial⟩, ⟨by show (0:Int) < rest.length; omega, by show (rest.length : Int) < _; omega⟩, fun k k0 k1 => ?_⟩
    refine ⟨⟨k0, k1⟩, by show order.length < sizeLine; omega, hN _ ⟨?_, by simp [hl]⟩⟩
    show ((order ++ [gIx rest k]) ++ rest.eraseIdx k.toNat).Perm (rng 0 n)
    rw [List.append_assoc]
    exact (List.Perm.append_left order (perm_erase (gIx_get ⟨k0, k1⟩))).trans hp
  · rintro ⟨rest, order⟩ ⟨hp, hl⟩
    have hlen := hp.length_eq
    rw [rng_length] at hl hlen
    simp only [List.length_append] at hlen
    simp only at hl
    have : rest = [] := List.length_eq_zero_iff.mp (by omega)
    subst this
    exact ⟨trivial, h _ (by show order.Perm (rng 0 n); simpa using hp)⟩
end DL
namespace DL
open PySem PySem.Spec PyProof.Rows L2
open Enc (enc)
theorem cutL_take {α : Type} {m : Int} {xs : List α} (h : 0 ≤ m) : cutL none (some m) xs = xs.take m.toNat := by
  have : ((m.toNat : Nat) : Int) = m := Int.toNat_of_nonneg h
  rw [← this]
  unfold cutL
  rw [show HT.sIx xs.length 0 none = 0 from rfl, HT.sIx_nat]
  rw [List.drop_zero, Nat.sub_zero, Int.toNat_natCast]
  by_cases hm : m.toNat ≤ xs.length
  · rw [Nat.min_eq_left hm]
  · rw [Nat.min_eq_right (by omega), List.take_of_length_le (Nat.le_refl _), List.take_of_length_le (by omega)]
theorem ite_ {b : Bool} {A B : Prop} (h1 : b = true → A) (h2 : b = false → B) : if b = true then A else B := by
  cases b with
  | true => exact h1 rfl
  | false => exact h2 rfl
theorem dec_any {p : Prop} {i1 i2 : Decidable p} {Q : Bool → Prop} (h : Q (@decide p i1)) : Q (@decide p i2) := by
  have : i1 = i2 := Subsingleton.elim _ _
  rw [← this]; exact h
theorem path_tn (n : Int) : Tn n ((rng 0 (n - 1)).map fun k => (k, k + 1)) :=
  ⟨nodup_map (rng_nodup _ _) fun a _ b _ e => congrArg Prod.fst e, fun p hp => by
    obtain ⟨k, hk, rfl⟩ := List.mem_map.mp hp
    have := mem_rng.mp hk
    show 0 ≤ k ∧ k < k + 1 ∧ k + 1 < n
    omega⟩
theorem ring_tn {n : Int} (h : 2 < n) : Tn n ((rng 0 (n - 1)).map (fun k => (k, k + 1)) ++ [(0, n - 1)]) :=
  ⟨List.nodup_append.mpr ⟨(path_tn n).1, List.nodup_cons.mpr ⟨(by simp), .nil⟩, fun a ha b hb e => by
    obtain ⟨k, hk, rfl⟩ := List.mem_map.mp ha
    rw [List.mem_singleton.mp hb] at e
    have e1 := congrArg Prod.fst e
    have e2 := congrArg Prod.snd e
    simp only at e1 e2
    omega⟩, fun p hp => by
    rcases List.mem_append.mp hp with hp | hp
    · exact (path_tn n).2 p hp
    · rw [List.mem_singleton.mp hp]
      show 0 ≤ (0:Int) ∧ 0 < n - 1 ∧ n - 1 < n
      omega⟩
theorem star_tn (n : Int) : Tn n ((rng 1 n).map (Prod.mk 0)) :=
  ⟨nodup_map (rng_nodup _ _) fun a _ b _ e => congrArg Prod.snd e, fun p hp => by
    obtain ⟨k, hk, rfl⟩ := List.mem_map.mp hp
    have := mem_rng.mp hk
    show 0 ≤ (0:Int) ∧ 0 < k ∧ k < n
    omega⟩
theorem tree_tn {n : Int} {ys : List (Int × Int)} (e : ys.map Prod.snd = rng 1 n) (h : ∀ p ∈ ys, 0 ≤ p.1 ∧ p.1 < p.2) : Tn n ys := by
  refine ⟨?_, fun p hp => ⟨(h p hp).1, (h p hp).2, ?_⟩⟩
  · have nd : (ys.map Prod.snd).Nodup := by rw [e]; exact rng_nodup _ _
    unfold List.Nodup at nd ⊢
    rw [List.pairwise_map] at nd
    exact nd.imp fun h e => h (by rw [e])
  · have : p.2 ∈ ys.map Prod.snd := List.mem_map_of_mem hp
    rw [e] at this
    exact (mem_rng.mp this).2
end DL

namespace K93
open PySem PySem.Spec PyProof.Rows L2 DL
def tE (ties : List (Int × Int)) (i j : Int) : Int := if i = j then 2 else if tieL i j ∈ ties then 1 else 0
def tabL (n : Int) (ties : List (Int × Int)) : List (List Int) := (rng 0 n).map fun i => (rng 0 n).map fun j => tE ties i j
def leastL (n : Int) (ties : List (Int × Int)) (xs : List Int) : Int := ((rng 0 n).map fun i => ((rng 0 n).map fun j => tE ties i j * gIx xs i * gIx xs j).sum).sum
def lsumL (n : Int) (ties : List (Int × Int)) (xs : List Int) : Int := ((rng 0 n).map fun k => 2 * gIx xs k * gIx xs k).sum + (ties.map fun p => 2 * gIx xs p.1 * gIx xs p.2).sum
theorem gIx_map_rng {α : Type} [Inhabited α] {n x : Int} {f : Int → α} (h0 : 0 ≤ x) (h1 : x < n) : gIx ((rng 0 n).map f) x = f x := by
  have hk : x.toNat < (n - 0).toNat := by omega
  have e : ((rng 0 n).map f)[x.toNat]? = some (f x) := by
    rw [List.getElem?_map, rng_get hk]
    show some (f (0 + (x.toNat : Int))) = _
    rw [Int.zero_add, Int.toNat_of_nonneg h0]
  have := gIx_nat e
  rwa [Int.toNat_of_nonneg h0] at this
theorem tab_get {n : Int} {ties : List (Int × Int)} {x y : Int} (hx : x ∈ rng 0 n) (hy : y ∈ rng 0 n) : gIx (gIx (tabL n ties) x) y = tE ties x y := by
  obtain ⟨x0, x1⟩ := mem_rng.mp hx
  obtain ⟨y0, y1⟩ := mem_rng.mp hy
  unfold tabL
  rw [gIx_map_rng x0 x1, gIx_map_rng y0 y1]
theorem tab_len (n : Int) (ties : List (Int × Int)) : (tabL n ties).length = n.toNat := by
  unfold tabL
  rw [List.length_map, rng_length]
  omega
theorem tab_row {n : Int} {ties : List (Int × Int)} {row : List Int} (h : row ∈ tabL n ties) : row.length = n.toNat := by
  obtain ⟨i, _, rfl⟩ := List.mem_map.mp h
  rw [List.length_map, rng_length]
  omega
theorem tE_lt {ties : List (Int × Int)} {i j : Int} : (tE ties i j).natAbs < 2 ^ 2 := by
  unfold tE
  split
  · decide
  · split <;> decide
/-- the table's sum is the sum by places and ties -/
theorem least_eq {n : Int} {ties : List (Int × Int)} (xs : List Int) (h : Tn n ties) : leastL n ties xs = lsumL n ties xs := by
  induction ties with
  | nil =>
    unfold leastL lsumL
    rw [List.map_nil, List.sum_nil, Int.add_zero]
    refine sum_map_congr fun i hi => ?_
    rw [sum_one (a := i) (rng_nodup _ _) hi fun j hj ne => ?_]
    · unfold tE; rw [if_pos rfl]
    · unfold tE; rw [if_neg (Ne.symm ne), if_neg (by simp)]; simp
  | cons t ties ih =>
    obtain ⟨nd, hr⟩ := h
    obtain ⟨nt, nd⟩ := List.nodup_cons.mp nd
    have ih := ih ⟨nd, fun p hp => hr p (List.mem_cons_of_mem _ hp)⟩
    obtain ⟨t0, t1, t2⟩ := hr t (List.mem_cons_self ..)
    have e1 : lsumL n (t :: ties) xs = lsumL n ties xs + 2 * gIx xs t.1 * gIx xs t.2 := by
      unfold lsumL
      rw [List.map_cons, List.sum_cons]
      omega
    have e2 : leastL n (t :: ties) xs = leastL n ties xs + ((rng 0 n).map fun i => ((rng 0 n).map fun j => (if i ≠ j ∧ tieL i j = t then 1 else 0) * gIx xs i * gIx xs j).sum).sum := by
      unfold leastL
      rw [← sum_addm]
      refine sum_map_congr fun i _ => ?_
      rw [← sum_addm]
      refine sum_map_congr fun j _ => ?_
      rw [← Int.add_mul, ← Int.add_mul]
      congr 2
      unfold tE
      by_cases hij : i = j
      · rw [if_pos hij, if_pos hij, if_neg (fun q => q.1 hij)]; rfl
      · rw [if_neg hij, if_neg hij]
        by_cases ht : tieL i j = t
        · rw [if_pos (by rw [ht]; exact List.mem_cons_self ..), if_neg (by rw [ht]; exact nt), if_pos ⟨hij, ht⟩]; rfl
        · rw [if_neg (show ¬ (i ≠ j ∧ tieL i j = t) from fun q => ht q.2)]
          by_cases hm : tieL i j ∈ ties
          · rw [if_pos hm, if_pos (List.mem_cons_of_mem _ hm)]; rfl
          · rw [if_neg hm, if_neg fun q => hm ((List.mem_cons.mp q).resolve_left ht)]; rfl
    rw [e1, e2, ih]
    congr 1
    have m1 : t.1 ∈ rng 0 n := mem_rng.mpr ⟨t0, by omega⟩
    have m2 : t.2 ∈ rng 0 n := mem_rng.mpr ⟨by omega, t2⟩
    have tie_iff : ∀ i j : Int, (i ≠ j ∧ tieL i j = t) ↔ (i = t.1 ∧ j = t.2) ∨ (i = t.2 ∧ j = t.1) := fun i j => by
      constructor
      · rintro ⟨ne, e⟩
        have a1 : min i j = t.1 := congrArg Prod.fst e
        have a2 : max i j = t.2 := congrArg Prod.snd e
        omega
      · intro h
        refine ⟨by omega, ?_⟩
        unfold tieL
        exact Prod.ext (by show min i j = _; omega) (by show max i j = _; omega)
    have row : ∀ i, ((rng 0 n).map fun j => (if i ≠ j ∧ tieL i j = t then 1 else 0) * gIx xs i * gIx xs j).sum = (if i = t.1 then gIx xs t.1 * gIx xs t.2 else 0) + (if i = t.2 then gIx xs t.1 * gIx xs t.2 else 0) := fun i => by
      by_cases c1 : i = t.1
      · subst c1
        rw [sum_one (a := t.2) (rng_nodup _ _) m2 fun j _ ne => by rw [if_neg (by rw [tie_iff]; omega)]; simp]
        rw [if_pos ((tie_iff _ _).mpr (.inl ⟨rfl, rfl⟩)), if_pos rfl, if_neg (by omega), Int.one_mul, Int.add_zero]
      · by_cases c2 : i = t.2
        · subst c2
          rw [sum_one (a := t.1) (rng_nodup _ _) m1 fun j _ ne => by rw [if_neg (by rw [tie_iff]; omega)]; simp]
          rw [if_pos ((tie_iff _ _).mpr (.inr ⟨rfl, rfl⟩)), if_neg c1, if_pos rfl, Int.one_mul, Int.zero_add, Int.mul_comm]
        · rw [if_neg c1, if_neg c2]
          exact sum_map_zero fun j _ => by rw [if_neg (by rw [tie_iff]; omega)]; simp
    rw [sum_map_congr fun i _ => row i, sum_addm]
    rw [sum_one (a := t.1) (rng_nodup _ _) m1 fun j _ ne => if_neg ne, sum_one (a := t.2) (rng_nodup _ _) m2 fun j _ ne => if_neg ne, if_pos rfl, if_pos rfl]
    rw [Int.mul_assoc, Int.two_mul]
/-! ### webs of ties -/
def meetL (p q : Int × Int) : Bool := decide (p.1 = q.1 ∨ p.1 = q.2) || decide (p.2 = q.1 ∨ p.2 = q.2)
def joinL (pairs : List (Int × Int)) : List (Int × Int) := (rng 0 (pairs.length : Int)).flatMap fun i => ((rng (i + 1) (pairs.length : Int)).filter fun j => meetL (gIx pairs i) (gIx pairs j)).map (Prod.mk i)
theorem joinL_eq (pairs : List (Int × Int)) : joinL pairs = (pairsL (pairs.length : Int)).filter fun p => meetL (gIx pairs p.1) (gIx pairs p.2) := by
  unfold joinL pairsL
  rw [List.filter_flatMap]
  congr 1
  funext i
  rw [List.filter_map]
  rfl
theorem joinL_tn (pairs : List (Int × Int)) : Tn (pairs.length : Int) (joinL pairs) := by
  rw [joinL_eq]
  exact (pairsL_tn _).sub (List.filter_sublist ..)
theorem joinL_len {pairs : List (Int × Int)} {k : Nat} (h : pairs.length ≤ k) : (joinL pairs).length ≤ pairs.length * k := by
  have := flat_len (k := k) (xs := rng 0 (pairs.length : Int)) (f := fun i => ((rng (i + 1) (pairs.length : Int)).filter fun j => meetL (gIx pairs i) (gIx pairs j)).map (Prod.mk i)) fun y hy => by
    have := (mem_rng.mp hy).1
    rw [List.length_map]
    refine Nat.le_trans (List.length_filter_le ..) ?_
    rw [rng_length]; omega
  rw [rng_length] at this
  refine Nat.le_trans this (Nat.mul_le_mul_right _ (by omega))
def I (p : Int × Int) (x : Int) : Int := if x = p.1 ∨ x = p.2 then 1 else 0
def cm (p q : Int × Int) : Int := I q p.1 + I q p.2
theorem shared_eq (p q : Int × Int) : (([p.1, p.2].filter fun x => decide (x = q.1 ∨ x = q.2)).length : Int) = cm p q := by
  unfold cm I
  by_cases h1 : p.1 = q.1 ∨ p.1 = q.2
  · by_cases h2 : p.2 = q.1 ∨ p.2 = q.2
    · rw [if_pos h1, if_pos h2]; simp [List.filter_cons, h1, h2]
    · rw [if_pos h1, if_neg h2]; simp [List.filter_cons, h1, h2]
  · by_cases h2 : p.2 = q.1 ∨ p.2 = q.2
    · rw [if_neg h1, if_pos h2]; simp [List.filter_cons, h1, h2]
    · rw [if_neg h1, if_neg h2]; simp [List.filter_cons, h1, h2]
theorem tE_join {pairs : List (Int × Int)} (h : Tn 24 pairs) {i j : Int} (hi : i ∈ rng 0 (pairs.length : Int)) (hj : j ∈ rng 0 (pairs.length : Int)) : tE (joinL pairs) i j = cm (gIx pairs i) (gIx pairs j) := by
  obtain ⟨i0, i1⟩ := mem_rng.mp hi
  obtain ⟨j0, j1⟩ := mem_rng.mp hj
  have ri := h.2 _ (gIx_mem (xs := pairs) ⟨i0, i1⟩)
  have rj := h.2 _ (gIx_mem (xs := pairs) ⟨j0, j1⟩)
  by_cases e : i = j
  · subst e
    unfold tE cm I
    rw [if_pos rfl, if_pos (.inl rfl), if_pos (.inr rfl)]
    rfl
  · have ne : gIx pairs i ≠ gIx pairs j := fun q => by
      have ei := gIx_get (xs := pairs) ⟨i0, i1⟩
      have ej := gIx_get (xs := pairs) ⟨j0, j1⟩
      rw [q, ← ej] at ei
      have := (List.getElem?_inj (by omega) h.1).mp ei
      omega
    have ne2 : ¬ ((gIx pairs i).1 = (gIx pairs j).1 ∧ (gIx pairs i).2 = (gIx pairs j).2) := fun q => ne (Prod.ext q.1 q.2)
    have key : tieL i j ∈ joinL pairs ↔ ((gIx pairs i).1 = (gIx pairs j).1 ∨ (gIx pairs i).1 = (gIx pairs j).2 ∨ (gIx pairs i).2 = (gIx pairs j).1 ∨ (gIx pairs i).2 = (gIx pairs j).2) := by
      rw [joinL_eq, List.mem_filter, mem_pairsL]
      unfold tieL meetL
      simp only [Bool.or_eq_true, decide_eq_true_eq]
      rcases Int.lt_or_gt_of_ne e with lt | gt
      · rw [Int.min_eq_left (by omega), Int.max_eq_right (by omega)]
        constructor
        · rintro ⟨_, h⟩; omega
        · intro h; exact ⟨⟨i0, lt, j1⟩, by omega⟩
      · rw [Int.min_eq_right (by omega), Int.max_eq_left (by omega)]
        constructor
        · rintro ⟨_, h⟩; omega
        · intro h; exact ⟨⟨j0, gt, i1⟩, by omega⟩
    unfold tE cm I
    rw [if_neg e]
    by_cases hk : tieL i j ∈ joinL pairs
    · rw [if_pos hk]
      have := key.mp hk
      by_cases c1 : (gIx pairs i).1 = (gIx pairs j).1 ∨ (gIx pairs i).1 = (gIx pairs j).2
      · rw [if_pos c1, if_neg (by omega)]; rfl
      · rw [if_neg c1, if_pos (by omega)]; rfl
    · rw [if_neg hk]
      have nk := mt key.mpr hk
      rw [if_neg (by omega), if_neg (by omega)]; rfl
theorem cm_sum {p q : Int × Int} (h : 0 ≤ p.1 ∧ p.1 < p.2 ∧ p.2 < 24) : ((rng 0 24).map fun x => I p x * I q x).sum = cm p q := by
  have e : ∀ x, I p x * I q x = (if x = p.1 then I q p.1 else 0) + (if x = p.2 then I q p.2 else 0) := fun x => by
    show (if x = p.1 ∨ x = p.2 then (1 : Int) else 0) * I q x = _
    by_cases c1 : x = p.1
    · rw [if_pos (.inl c1), if_pos c1, if_neg (by omega), c1]; omega
    · by_cases c2 : x = p.2
      · rw [if_pos (.inr c2), if_neg c1, if_pos c2, c2]; omega
      · rw [if_neg (by omega), if_neg c1, if_neg c2]; omega
  rw [sum_map_congr fun x _ => e x, sum_addm, sum_one (a := p.1) (rng_nodup _ _) (mem_rng.mpr (by omega)) fun x _ ne => if_neg ne, sum_one (a := p.2) (rng_nodup _ _) (mem_rng.mpr (by omega)) fun x _ ne => if_neg ne, if_pos rfl, if_pos rfl]
  rfl
theorem sum_filter {α : Type} (b : α → Bool) (f : α → Int) : ∀ xs : List α, ((xs.filter b).map f).sum = (xs.map fun x => if b x = true then f x else 0).sum
  | [] => rfl
  | x :: xs => by
    rw [List.filter_cons, List.map_cons, List.sum_cons, ← sum_filter b f xs]
    by_cases h : b x = true
    · rw [if_pos h, if_pos h, List.map_cons, List.sum_cons]
    · rw [if_neg h, if_neg h, Int.zero_add]
theorem sum_prod {α β : Type} (f : α → Int) (g : β → Int) (ys : List β) : ∀ xs : List α, (xs.map f).sum * (ys.map g).sum = (xs.map fun x => (ys.map fun y => f x * g y).sum).sum
  | [] => by simp
  | x :: xs => by
    rw [List.map_cons, List.sum_cons, Int.add_mul, sum_prod f g ys xs, List.map_cons, List.sum_cons, sum_map_mul]
def ownL (pairs : List (Int × Int)) (ys : List Int) (x : Int) : Int := (((rng 0 (pairs.length : Int)).filter fun k => decide (x = (gIx pairs k).1 ∨ x = (gIx pairs k).2)).map fun k => gIx ys k).sum
def squaresL (pairs : List (Int × Int)) (ys : List Int) : Int := ((rng 0 24).map fun x => ownL pairs ys x * ownL pairs ys x).sum
theorem own_eq (pairs : List (Int × Int)) (ys : List Int) (x : Int) : ownL pairs ys x = ((rng 0 (pairs.length : Int)).map fun k => I (gIx pairs k) x * gIx ys k).sum := by
  unfold ownL
  rw [sum_filter]
  refine sum_map_congr fun k _ => ?_
  unfold I
  by_cases c : x = (gIx pairs k).1 ∨ x = (gIx pairs k).2
  · rw [if_pos (decide_eq_true c), if_pos c, Int.one_mul]
  · rw [if_neg (by simpa using c), if_neg c, Int.zero_mul]
theorem least_squares {pairs : List (Int × Int)} (h : Tn 24 pairs) (ys : List Int) : leastL (pairs.length : Int) (joinL pairs) ys = squaresL pairs ys := by
  have e : ∀ x, ownL pairs ys x * ownL pairs ys x = ((rng 0 (pairs.length : Int)).map fun i => ((rng 0 (pairs.length : Int)).map fun j => (I (gIx pairs i) x * gIx ys i) * (I (gIx pairs j) x * gIx ys j)).sum).sum := fun x => by
    rw [own_eq, sum_prod]
  unfold squaresL leastL
  symm
  rw [sum_map_congr fun x _ => e x, sum_swap]
  refine sum_map_congr fun i hi => ?_
  rw [sum_swap]
  refine sum_map_congr fun j hj => ?_
  obtain ⟨i0, i1⟩ := mem_rng.mp hi
  rw [tE_join h hi hj, ← cm_sum (q := gIx pairs j) (h.2 _ (gIx_mem (xs := pairs) ⟨i0, i1⟩))]
  rw [Int.mul_assoc, Int.mul_comm, ← sum_map_mul]
  refine sum_map_congr fun x _ => ?_
  ac_rfl
theorem squares_nn (pairs : List (Int × Int)) (ys : List Int) : 0 ≤ squaresL pairs ys := by
  refine sum_nonneg fun z hz => ?_
  obtain ⟨x, _, rfl⟩ := List.mem_map.mp hz
  rcases Int.le_total 0 (ownL pairs ys x) with h | h
  · exact Int.mul_nonneg h h
  · exact Int.mul_nonneg_of_nonpos_of_nonpos h h
theorem shared_tab {pairs : List (Int × Int)} (h : Tn 24 pairs) : tabL (pairs.length : Int) (joinL pairs) = pairs.map fun p => pairs.map fun q => (([p.1, p.2].filter fun x => decide (x = q.1 ∨ x = q.2)).length : Int) := by
  have e : ∀ {β : Type} (f : Int × Int → β), pairs.map f = (rng 0 (pairs.length : Int)).map fun i => f (gIx pairs i) := fun f => by
    conv => lhs; rw [← map_gIx pairs]
    rw [List.map_map]
    rfl
  rw [e]
  unfold tabL
  refine List.map_congr_left fun i hi => ?_
  rw [e]
  refine List.map_congr_left fun j hj => ?_
  rw [tE_join h hi hj, shared_eq]
theorem sum_const {α : Type} (c : Int) : ∀ xs : List α, (xs.map fun _ => c).sum = c * (xs.length : Int)
  | [] => by simp
  | x :: xs => by
    rw [List.map_cons, List.sum_cons, sum_const c xs, List.length_cons]
    rw [show (((xs.length + 1 : Nat)) : Int) = (xs.length : Int) + 1 from by omega, Int.mul_add]
    omega
def starL (e : Int) (names : List Int) : List (Int × Int) := renL ((rng 0 e).map fun v => (0, v + 1)) names
def numL (e : Int) (names : List Int) : List Int := (List.replicate (e + 1).toNat (-1)).set (gIx names 0).toNat 2
theorem star0_tn (e : Int) : Tn (e + 1) ((rng 0 e).map fun v => ((0 : Int), v + 1)) :=
  ⟨nodup_map (rng_nodup _ _) fun a _ b _ q => by have := congrArg Prod.snd q; simp only at this; omega, fun p hp => by
    obtain ⟨k, hk, rfl⟩ := List.mem_map.mp hp
    have := mem_rng.mp hk
    show 0 ≤ (0:Int) ∧ 0 < k + 1 ∧ k + 1 < e + 1
    omega⟩
theorem num_get {e : Int} {names : List Int} (he : 0 ≤ e) (h : Nm (e + 1) names) {k : Int} (k0 : 0 ≤ k) (k1 : k < e + 1) : gIx (numL e names) k = if k = gIx names 0 then 2 else -1 := by
  have c := h.get (i := 0) (by omega) (by omega)
  have hl : k.toNat < (numL e names).length := by unfold numL; rw [List.length_set, List.length_replicate]; omega
  have : (numL e names)[k.toNat]? = some (if k = gIx names 0 then 2 else -1) := by
    unfold numL
    rw [List.getElem?_set]
    by_cases q : k = gIx names 0
    · rw [if_pos (by omega), if_pos q, if_pos (by rw [List.length_replicate]; omega)]
    · rw [if_neg (by omega), if_neg q, List.getElem?_replicate, if_pos (by omega)]
  have := gIx_nat this
  rwa [Int.toNat_of_nonneg k0] at this
theorem star_sum {e : Int} {names : List Int} (he : 0 ≤ e) (h : Nm (e + 1) names) : leastL (e + 1) (starL e names) (numL e names) = 8 - 2 * e := by
  rw [least_eq _ (show Tn (e + 1) (starL e names) from (renL_web (star0_tn e) h).1)]
  unfold lsumL
  have c := h.get (i := 0) (by omega) (by omega)
  have e1 : ((rng 0 (e + 1)).map fun k => 2 * gIx (numL e names) k * gIx (numL e names) k).sum = 2 * (e + 1) + 6 := by
    rw [sum_map_congr (g := fun k => 2 + if k = gIx names 0 then 6 else 0) fun k hk => ?_, sum_addm, sum_const, sum_one (a := gIx names 0) (rng_nodup _ _) (mem_rng.mpr c) fun k _ ne => if_neg ne, if_pos rfl, rng_length]
    · omega
    · have := mem_rng.mp hk
      rw [num_get he h this.1 this.2]
      split <;> rfl
  have e2 : ((starL e names).map fun p => 2 * gIx (numL e names) p.1 * gIx (numL e names) p.2).sum = -4 * e := by
    unfold starL renL
    rw [sum_perm ((srt_perm leP _).map _), List.map_map, List.map_map]
    rw [sum_map_congr (g := fun _ => -4) fun v hv => ?_, sum_const, rng_length]
    · omega
    · have hv := mem_rng.mp hv
      have o := h.get (i := v + 1) (by omega) (by omega)
      have ne : gIx names 0 ≠ gIx names (v + 1) := fun q => by
        have := h.inj (i := 0) (j := v + 1) (by omega) (by omega) (by omega) (by omega) q
        omega
      show 2 * gIx (numL e names) (min (gIx names 0) (gIx names (v + 1))) * gIx (numL e names) (max (gIx names 0) (gIx names (v + 1))) = -4
      have x1 := num_get he h c.1 c.2
      have x2 := num_get he h o.1 o.2
      rw [if_pos rfl] at x1
      rw [if_neg (Ne.symm ne)] at x2
      rcases Int.le_total (gIx names 0) (gIx names (v + 1)) with q | q
      · rw [Int.min_eq_left q, Int.max_eq_right q, x1, x2]; rfl
      · rw [Int.min_eq_right q, Int.max_eq_left q, x1, x2]; rfl
  rw [e1, e2]
  omega
end K93

namespace K93
open PySem PySem.Spec PyProof.Rows L2 DL
open DL.Enc (enc)
def topS (i : Nat) : Stmt := PySem.Challenge.pw_tiesasplaces_k93_square_numbers_and_sums.main.body.getD i (.Pass ⟨0, 0, 0, 0⟩)

structure Txt (K : PySem.W.Frag) (mg : Str → Option Value) : Prop where
  b_abs : mg "abs" = none
  b_bool : mg "bool" = none
  b_int : mg "int" = none
  b_isinstance : mg "isinstance" = none
  b_len : mg "len" = none
  b_list : mg "list" = none
  b_max : mg "max" = none
  b_min : mg "min" = none
  b_range : mg "range" = none
  b_sorted : mg "sorted" = none
  b_sum : mg "sum" = none
variable {P : Program} {w : World} {K : PySem.W.Frag} {mg : Str → Option Value} {base : Heap}
abbrev s__law_draw : Int → (Int → Prop) → Prop := s_draw
theorem ms__law_draw : ∀ a, Mono (s__law_draw a) := ms_draw

abbrev st__law_feed : Stmt := topS 8
theorem sc__law_feed : FnScope ["script"] ["script"] (defScope st__law_feed) := ⟨rfl, rfl, rfl, by decide +kernel, rfl, by decide +kernel, by decide +kernel⟩
theorem ok__law_feed (T : Txt K mg) (D : Df K mg "_law_feed" st__law_feed) : Cl P w K mg base "_law_feed" 1 ["script"] (spFeed K) := by
  refine mkCl D (fun _ _ _ _ _ _ us hl => match us, hl with | [_], _ => rfl) fun f fd F => ?_
  refine F.ok sc__law_feed (fun vs H Q E ⟨a, ns, e, _⟩ => by rw [e]; rfl) fun cdv A outer s H vs Q E hr ⟨a, ns, e, hs, hl, q⟩ => ?_
  subst e
  refine ⟨_, pss_one (ps_ret (pe_lst (pa_cons (pe_callTy call_list_of (by rfl) T.b_list (by decide +kernel) (pa_cons (pv 0) pa_nil)) (pa_cons pe_int (pa_cons pe_int (pa_cons pe_int pa_nil)))))), ?_⟩
  refine ⟨_, rfl, a, _, rfl, .inl hs, fun l nl => ⟨(by show 4 ≤ sizeLine; decide), fun p np => ?_⟩⟩
  have hlp : l ≠ p := fun e => by rw [e, upd_same] at np; cases np
  have np' : H p = none := by rw [upd_ne (Ne.symm hlp)] at np; exact np
  refine q _ ⟨p, l, ns⟩ (fun b o e => by rw [upd_ne (ne_of_none e np'), upd_ne (ne_of_none e nl)]; exact e) ⟨⟨0, 0, 1, upd_same, by decide, by decide, by decide, by decide⟩, ?_, hl, hlp⟩
  rw [upd_ne hlp]
  exact upd_same

abbrev st__law_draw : Stmt := topS 9
theorem sc__law_draw : FnScope ["feed", "many", "cell", "told", "mixed"] ["feed", "many"] (defScope st__law_draw) := ⟨rfl, rfl, rfl, by decide +kernel, rfl, by decide +kernel, by decide +kernel⟩
theorem ok__law_draw (T : Txt K mg) (D : Df K mg "_law_draw" st__law_draw) : Cl P w K mg base "_law_draw" 1 ["feed", "many"] (sf1 s__law_draw) := by
  refine mkCl D (fun _ _ _ _ _ _ us hl => match us, hl with | [_, _], _ => rfl) fun f fd F => ?_
  have nd := sc__law_draw.nd
  refine F.ok sc__law_draw (fun vs H Q E ⟨Fd, us, ds, eu, fe, d, a0, e, q⟩ => by rw [eu, List.length_cons, d.length, e]; rfl) fun cdv A outer s H vs Q E hr ⟨Fd, us, ds, eu, fe, d, a0, e, q⟩ => ?_
  subst eu e
  obtain ⟨u, rfl⟩ : ∃ u, us = [u] := by
    have := d.length
    match us, this with
    | [u], _ => exact ⟨u, rfl⟩
  cases d with
  | cons d0 _ =>
  cases (d0 : DA _ H u (.int a0))
  obtain ⟨⟨i, big, sd, hF, i0, b0, s0, s1⟩, hc, hl, hne⟩ := fe
  obtain ⟨⟨m0, m1⟩, q⟩ := q
  have fin : ∀ (H1 : Hp) (i b z k : Int), Evo (fun a => a = Fd.a) H H1 → H1 Fd.a = some (.lst (fl Fd.ca i b z)) → 0 ≤ i → 0 ≤ b → 0 ≤ z → z < 2147483647 → 0 ≤ k → k < a0 → Q (.int k) H1 := fun H1 i b z k ev h1 p1 p2 p3 p4 p5 p6 =>
    q k p5 p6 (.int k) H1 ev ⟨⟨i, b, z, h1, p1, p2, p3, p4⟩, ev _ _ (.inl hne) hc, hl, hne⟩ (.int k)
  have evu : ∀ {H1 : Hp} {o : HO}, Evo (fun a => a = Fd.a) H H1 → Evo (fun a => a = Fd.a) H (upd H1 Fd.a o) := fun {H1 o} ev a o' h e => by
    by_cases ha : a = Fd.a
    · rcases h with h | h
      · exact absurd ha h
      · subst ha
        rw [hF] at e
        cases e
        cases h
    · rw [upd_ne ha]
      exact ev a o' h e
  have r2 : ∃ t, PSs (cxN P w K mg base ["feed", "many", "cell", "told", "mixed"] "_law_draw" st__law_draw f cdv A outer s H E) (defBody st__law_draw).tail t ∧
      ∀ (H1 : Hp) (i b z : Int) (c : Option V), Evo (fun a => a = Fd.a) H H1 → H1 Fd.a = some (.lst (fl Fd.ca i b z)) → 0 ≤ i → 0 ≤ b → 0 ≤ z → z < 2147483647 →
      t { nx := fun _ H' => Q .non H', rt := Q } ([some (.ref Fd.a), some (.int a0), c, none, none] : L2.St) H1 := by
    refine ⟨_, pss_cons (ps_if (pt_cmpR op_gt (pe_ix ix_list (pv 0) pe_int (fun _ _ => rfl)) pe_int (nomark _))
        (pss_cons (ps_set (i := 3) nd rfl (Or.inl rfl) (pe_op op_mod (pe_callTy call_int1 (by rfl) T.b_int (by decide +kernel) (pa_cons (pe_ix ix_list (pv 0) pe_int (fun _ _ => rfl)) pa_nil)) (pv 1)))
          (pss_cons (ps_asg (pe_op op_fdiv (pe_ix ix_list (pv 0) pe_int (fun _ _ => rfl)) (pv 1)) (pg_sub (pv 0) pe_int set_list))
            (pss_one (ps_ret (pv 3))))) pss_nil)
      (pss_cons (ps_asg (pe_op op_mod (pe_callTy call_int1 (by rfl) T.b_int (by decide +kernel) (pa_cons (pe_op op_add (pe_op op_mul (pe_ix ix_list (pv 0) pe_int (fun _ _ => rfl)) pe_int) pe_int) pa_nil)) pe_int) (pg_sub (pv 0) pe_int set_list))
      (pss_cons (ps_set (i := 4) nd rfl (Or.inl rfl) (pe_op op_mod (pe_callTy call_int1 (by rfl) T.b_int (by decide +kernel) (pa_cons (pe_op op_add (pe_op op_mul (pe_ix ix_list (pv 0) pe_int (fun _ _ => rfl)) (pe_ix ix_list (pv 0) pe_int (fun _ _ => rfl))) (pe_ix ix_list (pv 0) pe_int (fun _ _ => rfl))) pa_nil)) pe_int))
      (pss_one (ps_ret (pe_op op_mod (pe_op op_fdiv (pv 4) pe_int) (pv 1)))))), ?_⟩
    intro H1 i b z c ev h1 p1 p2 p3 p4
    have cm : ∀ x y : Int, 0 ≤ y → y < 2147483647 → CMul x y := fun x y h1 h2 => .inr ⟨by omega, by omega⟩
    refine ⟨_, rfl, _, _, _, _, rfl, rfl, SqL.of h1, rfl, _, _, rfl, rfl, _, rfl, ?_⟩
    by_cases hb : 0 < b
    · rw [decide_eq_true hb]
      refine ⟨_, rfl, _, _, _, _, rfl, rfl, SqL.of h1, rfl, .inl ⟨_, rfl, _, rfl, _, _, rfl, rfl, m0, _, rfl, _, _, _, _, rfl, rfl, SqL.of h1, rfl, _, rfl, _, _, rfl, rfl, ⟨m0, m1⟩, _, rfl, _, _, _, _, rfl, rfl, h1, rfl, ?_⟩⟩
      exact ⟨_, rfl, fin _ i (b / a0) z (b % a0) (evu ev) upd_same p1 (Int.ediv_nonneg p2 (by omega)) p3 p4 (Int.emod_nonneg _ (by omega)) (Int.emod_lt_of_pos _ m0)⟩
    · rw [decide_eq_false hb]
      refine ⟨_, rfl, _, _, _, _, rfl, rfl, SqL.of h1, rfl, _, _, rfl, rfl, cm _ _ (by decide) (by decide), _, _, rfl, rfl, .inl ⟨_, rfl, _, _, rfl, rfl, (by show (0:Int) < 2147483647; decide), _, rfl, _, _, _, _, rfl, rfl, h1, rfl, ?_⟩⟩
      have k1 : 0 ≤ (z * 16807 + 12345) % 2147483647 := Int.emod_nonneg _ (by decide)
      have k2 : (z * 16807 + 12345) % 2147483647 < 2147483647 := Int.emod_lt_of_pos _ (by decide)
      have ev2 := evu (o := .lst (fl Fd.ca i b ((z * 16807 + 12345) % 2147483647))) ev
      have h2 : upd H1 Fd.a (.lst (fl Fd.ca i b ((z * 16807 + 12345) % 2147483647))) Fd.a = some (.lst (fl Fd.ca i b ((z * 16807 + 12345) % 2147483647))) := upd_same
      refine ⟨_, rfl, _, _, _, _, rfl, rfl, SqL.of h2, rfl, _, rfl, _, _, _, _, rfl, rfl, SqL.of h2, rfl, _, _, rfl, rfl, cm _ _ k1 k2, _, rfl, _, _, _, _, rfl, rfl, SqL.of h2, rfl, _, _, rfl, rfl, .inl ⟨_, rfl, _, _, rfl, rfl, (by show (0:Int) < 2147483629; decide), ?_⟩⟩
      refine ⟨_, rfl, _, _, rfl, rfl, ⟨by decide, by decide⟩, _, rfl, _, _, rfl, rfl, m0, ?_⟩
      exact fin _ i b _ _ ev2 h2 p1 p2 k1 k2 (Int.emod_nonneg _ (by omega)) (Int.emod_lt_of_pos _ m0)
  obtain ⟨t2, ps2, k2⟩ := r2
  refine ⟨_, pss_cons (ps_if (PW.pt (pw_and (pt_cmpR op_eq (pe_ix ix_list (pv 0) pe_int (fun _ _ => rfl)) pe_int (nomark _)) (pw_and1 (pt_cmpR op_lt (pe_ix ix_list (pv 0) pe_int (fun _ _ => rfl)) (pe_callB call_len_seq (by rfl) T.b_len PySem.boot_len (pa_cons (pe_ix ix_list (pv 0) pe_int (fun _ _ => rfl)) pa_nil)) (nomark _)))))
      (pss_cons (ps_set (i := 2) nd rfl (Or.inl rfl) (pe_callB call_abs (by rfl) T.b_abs (by decide +kernel) (pa_cons (pe_callTy call_int1 (by rfl) T.b_int (by decide +kernel) (pa_cons (pe_ix ix_list (pe_ix ix_list (pv 0) pe_int (fun _ _ => rfl)) (pe_ix ix_list (pv 0) pe_int (fun _ _ => rfl)) (fun _ _ => rfl)) pa_nil)) pa_nil)))
      (pss_cons (ps_augS (pv 0) pe_int pget_list pe_int ip_add set_list)
      (pss_one (ps_if (pt_cmpR op_ge (pv 2) (pe_op op_pow pe_int pe_int) (nomark _))
        (pss_one (ps_asg (pv 2) (pg_sub (pv 0) pe_int set_list)))
        (pss_one (ps_asg (pe_op op_mod (pe_callTy call_int1 (by rfl) T.b_int (by decide +kernel) (pa_cons (pe_op op_add (pe_op op_add (pe_op op_mul (pe_ix ix_list (pv 0) pe_int (fun _ _ => rfl)) pe_int) (pe_op op_mul (pv 2) pe_int)) (pe_ix ix_list (pv 0) pe_int (fun _ _ => rfl))) pa_nil)) pe_int) (pg_sub (pv 0) pe_int set_list))))))) pss_nil) ps2, ?_⟩
  refine ⟨_, rfl, _, _, _, _, rfl, rfl, SqL.of hF, rfl, rfl, _, rfl, ?_⟩
  by_cases hb : big = 0
  · subst hb
    refine ⟨_, rfl, _, _, _, _, rfl, rfl, SqL.of hF, rfl, _, rfl, _, _, _, _, rfl, rfl, SqL.of hF, rfl, _, _, rfl, .inl (SqL.of hc), _, _, rfl, rfl, _, rfl, ?_⟩
    by_cases hi : i < ((Fd.ns.map V.int).length : Int)
    · rw [decide_eq_true hi]
      obtain ⟨x, hx⟩ : ∃ x, atI (Fd.ns.map V.int) i = some (.int x) := by
        rw [List.length_map] at hi
        have hi2 : i.toNat < Fd.ns.length := by omega
        refine ⟨Fd.ns[i.toNat], ?_⟩
        have := atI_nat (xs := Fd.ns.map V.int) (j := i.toNat) (v := .int Fd.ns[i.toNat]) (by rw [List.getElem?_map, List.getElem?_eq_getElem hi2]; rfl)
        rwa [Int.toNat_of_nonneg i0] at this
      refine ⟨_, rfl, _, _, _, _, rfl, rfl, SqL.of hF, rfl, _, rfl, _, _, _, _, rfl, rfl, SqL.of hF, rfl, _, _, _, _, rfl, rfl, SqL.of hc, hx, .inl ⟨_, rfl, _, rfl, _, rfl, _, _, _, _, rfl, rfl, SqL.of hF, rfl, _, _, rfl, rfl, _, _, _, _, rfl, rfl, hF, rfl, ?_⟩⟩
      have h2 : upd H Fd.a (.lst (fl Fd.ca (i + 1) 0 sd)) Fd.a = some (.lst (fl Fd.ca (i + 1) 0 sd)) := upd_same
      have ev2 := evu (o := .lst (fl Fd.ca (i + 1) 0 sd)) (.refl _ _)
      have hx0 : 0 ≤ (if x < 0 then -x else x) := by split <;> omega
      refine ⟨_, rfl, _, _, rfl, rfl, ⟨by decide, by decide, by decide⟩, _, _, rfl, rfl, _, rfl, ?_⟩
      by_cases hx1 : (10 : Int) ^ (Int.toNat 18) ≤ (if x < 0 then -x else x)
      · rw [decide_eq_true hx1]
        refine ⟨_, rfl, _, rfl, _, _, _, _, rfl, rfl, h2, rfl, ?_⟩
        exact k2 _ (i + 1) _ sd _ (evu ev2) upd_same (by omega) hx0 s0 s1
      · rw [decide_eq_false hx1]
        refine ⟨_, rfl, _, _, _, _, rfl, rfl, SqL.of h2, rfl, _, _, rfl, rfl, .inr ⟨by decide, by decide⟩, _, rfl, _, _, rfl, rfl, .inr ⟨by decide, by decide⟩, _, _, rfl, rfl, _, rfl, _, _, _, _, rfl, rfl, SqL.of h2, rfl, _, _, rfl, rfl, .inl ⟨_, rfl, _, _, rfl, rfl, (by show (0:Int) < 2147483647; decide), _, rfl, _, _, _, _, rfl, rfl, h2, rfl, ?_⟩⟩
        exact k2 _ (i + 1) 0 _ _ (evu ev2) upd_same (by omega) (by decide) (Int.emod_nonneg _ (by decide)) (Int.emod_lt_of_pos _ (by decide))
    · rw [decide_eq_false hi]
      exact k2 H i 0 sd none (.refl _ _) hF i0 b0 s0 s1
  · have : decide (V.int big = V.int 0) = false := decide_eq_false fun e => hb (by cases e; rfl)
    rw [this]
    exact k2 H i big sd none (.refl _ _) hF i0 b0 s0 s1

def p_tie_of (i j : Int) : Prop := True
def f_tie_of (i j : Int) : Int × Int := tieL i j

abbrev st_tie_of : Stmt := topS 1
theorem sc_tie_of : FnScope ["i", "j"] ["i", "j"] (defScope st_tie_of) := ⟨rfl, rfl, rfl, by decide +kernel, rfl, by decide +kernel, by decide +kernel⟩
def s_tie_of : Int → Int → ((Int × Int) → Prop) → Prop := (fun a_i a_j => Wp (p_tie_of a_i a_j) (f_tie_of a_i a_j))
theorem ok_tie_of (T : Txt K mg) (D : Df K mg "tie_of" st_tie_of)  : Cl P w K mg base "tie_of" 1 ["i", "j"] (sp2 s_tie_of) := by
  refine mkCl D (fun _ _ _ _ _ _ us hl => match us, hl with | [_, _], _ => rfl) fun f fd F => ?_
  have nd := sc_tie_of.nd
  refine ok2 (ς := Unit) (G := fun _ => []) (k := 0) (N := ["i", "j"]) F sc_tie_of rfl (fun a_i a_j cdv A outer s H E hr =>
      bx_ret (px_pair (m := .fr) (px_b2 (m := .fr) (call_min2 rfl) dc_min2 (by rfl) T.b_min (by decide +kernel) (wx_vn (m := .fr) 0 (a := a_i)) (wx_vn (m := .fr) 1 (a := a_j))) (px_b2 (m := .fr) (call_max2 rfl) dc_max2 (by rfl) T.b_max (by decide +kernel) (wx_vn (m := .fr) 0 (a := a_i)) (wx_vn (m := .fr) 1 (a := a_j))))) ?_
  intro i j Q h
  exact ⟨⟨⟨trivial, trivial, trivial⟩, trivial, trivial, trivial⟩, h.2⟩

def p_are_joined (ties : List (Int × Int)) (i j : Int) : Prop := True
def f_are_joined (ties : List (Int × Int)) (i j : Int) : Bool := decide (tieL i j ∈ ties)

abbrev st_are_joined : Stmt := topS 2
theorem sc_are_joined : FnScope ["ties", "i", "j"] ["ties", "i", "j"] (defScope st_are_joined) := ⟨rfl, rfl, rfl, by decide +kernel, rfl, by decide +kernel, by decide +kernel⟩
def s_are_joined : (List (Int × Int)) → Int → Int → (Bool → Prop) → Prop := (fun a_ties a_i a_j => Wp (p_are_joined a_ties a_i a_j) (f_are_joined a_ties a_i a_j))
theorem ok_are_joined (T : Txt K mg) (D : Df K mg "are_joined" st_are_joined) (C_tie_of : Cl P w K mg base "tie_of" 1 ["i", "j"] (sp2 s_tie_of)) : Cl P w K mg base "are_joined" 2 ["ties", "i", "j"] (sp3 s_are_joined) := by
  refine mkCl D (fun _ _ _ _ _ _ us hl => match us, hl with | [_, _, _], _ => rfl) fun f fd F => ?_
  have nd := sc_are_joined.nd
  refine ok3 (ς := Unit) (G := fun _ => []) (k := 1) (N := ["ties", "i", "j"]) F sc_are_joined rfl (fun a_ties a_i a_j cdv A outer s H E hr =>
      bx_ret ((px_cmp (m := .fr) (op_inD (Room.un65 hr)) (dop_in (K := K)) (WX.nl (m := .any) (px_c2 (m := .fr) C_tie_of hr (wx_vn (m := .fr) 1 (a := a_i)) (wx_vn (m := .fr) 2 (a := a_j)))) (WX.le (m := .any) (wx_var (m := .pl) 0 (a := a_ties))) rfl))) ?_
  intro ties i j Q h
  have h2 : Q (decide (tieL i j ∈ ties)) := h.2
  exact ⟨⟨⟨trivial, trivial, trivial⟩, trivial, trivial⟩, dec_any (Q := Q) h2⟩

def p_square_number (ties : List (Int × Int)) (i j : Int) : Prop := True
def f_square_number (ties : List (Int × Int)) (i j : Int) : Int := tE ties i j

abbrev st_square_number : Stmt := topS 4
theorem sc_square_number : FnScope ["ties", "i", "j"] ["ties", "i", "j"] (defScope st_square_number) := ⟨rfl, rfl, rfl, by decide +kernel, rfl, by decide +kernel, by decide +kernel⟩
def s_square_number : (List (Int × Int)) → Int → Int → (Int → Prop) → Prop := (fun a_ties a_i a_j => Wp (p_square_number a_ties a_i a_j) (f_square_number a_ties a_i a_j))
theorem ok_square_number (T : Txt K mg) (D : Df K mg "square_number" st_square_number) (C_are_joined : Cl P w K mg base "are_joined" 2 ["ties", "i", "j"] (sp3 s_are_joined)) : Cl P w K mg base "square_number" 3 ["ties", "i", "j"] (sp3 s_square_number) := by
  refine mkCl D (fun _ _ _ _ _ _ us hl => match us, hl with | [_, _, _], _ => rfl) fun f fd F => ?_
  have nd := sc_square_number.nd
  refine ok3 (ς := Unit) (G := fun _ => []) (k := 2) (N := ["ties", "i", "j"]) F sc_square_number rfl (fun a_ties a_i a_j cdv A outer s H E hr =>
      bx_if (G1 := fun (v1_s : Unit) => [.d .pl (enc (a_ties : (List (Int × Int)))), .d .pl (enc (a_i : Int)), .d .pl (enc (a_j : Int))]) (pt_cmp' (op_eqD (Room.units hr)) (dop_eq (K := K)) (WX.nl (m := .any) (wx_vn (m := .fr) 1 (a := a_i))) (WX.nl (m := .any) (wx_vn (m := .fr) 2 (a := a_j))) (nomark _)) (
      bx_ret (wx_int (m := .fr))) (
      bx_nil () (wk_d (wk_d (wk_d wk_nil)))) (fun v1_s =>
      bx_ret (px_ty1 (m := .fr) call_int1 dc_intB (by rfl) T.b_int (by decide +kernel) (px_c3 (m := .fr) C_are_joined hr (wx_var (m := .pl) 0 (a := a_ties)) (wx_vn (m := .fr) 1 (a := a_i)) (wx_vn (m := .fr) 2 (a := a_j)))))) ?_
  intro ties i j Q h
  have h2 : Q (tE ties i j) := h.2
  unfold tE at h2
  refine ⟨⟨trivial, trivial, trivial⟩, ite_ (fun e => ⟨trivial, ?_⟩) fun e => ⟨⟨⟨trivial, trivial, trivial, trivial⟩, trivial⟩, ?_⟩⟩
  · rw [if_pos (of_decide_eq_true e)] at h2
    exact h2
  · rw [if_neg (of_decide_eq_false e)] at h2
    show Q (if decide (tieL i j ∈ ties) = true then 1 else 0)
    simp only [decide_eq_true_eq]
    exact h2

def p_square_numbers (n : Int) (ties : List (Int × Int)) : Prop := 0 ≤ n ∧ n ≤ 1000
def f_square_numbers (n : Int) (ties : List (Int × Int)) : List (List Int) := tabL n ties

abbrev st_square_numbers : Stmt := topS 5
theorem sc_square_numbers : FnScope ["n", "ties", "i", "j"] ["n", "ties"] (defScope st_square_numbers) := ⟨rfl, rfl, rfl, by decide +kernel, rfl, by decide +kernel, by decide +kernel⟩
def s_square_numbers : Int → (List (Int × Int)) → ((List (List Int)) → Prop) → Prop := (fun a_n a_ties => Wp (p_square_numbers a_n a_ties) (f_square_numbers a_n a_ties))
theorem ok_square_numbers (T : Txt K mg) (D : Df K mg "square_numbers" st_square_numbers) (C_square_number : Cl P w K mg base "square_number" 3 ["ties", "i", "j"] (sp3 s_square_number)) : Cl P w K mg base "square_numbers" 4 ["n", "ties"] (sp2 s_square_numbers) := by
  refine mkCl D (fun _ _ _ _ _ _ us hl => match us, hl with | [_, _], _ => rfl) fun f fd F => ?_
  have nd := sc_square_numbers.nd
  refine ok2 (ς := Unit) (G := fun _ => []) (k := 3) (N := ["n", "ties", "i", "j"]) F sc_square_numbers rfl (fun a_n a_ties cdv A outer s H E hr =>
      bx_ret (WN.wx (pn_lc0 (m := .fr) rfl nd (blkOk_by (own := [("i", 2)]) (N := ["n", "ties", "i", "j"]) (by change blkC _ (defScope st_square_numbers) _ _ = true; decide +kernel)) (pi_r1 (wi_range1 (k := true) (m := .fr) (wx_vn (m := .fr) 0 (a := a_n)) (by rfl) T.b_range)) (ct_name 2) (fun _ _ _ _ _ => pg_name (i := 2) nd rfl (Or.inr rfl)) (fun v1_x _ _ _ _ _ => (WN.wx (pn_lc0 (m := .fr) rfl nd (blkOk_bk (own := [("j", 3)]) (N := ["n", "ties", "i", "j"]) (by decide +kernel)) (pi_r1 (wi_range1 (k := true) (m := .fr) (wx_vn (m := .fr) 0 (a := a_n)) (by rfl) T.b_range)) (ct_name 3) (fun _ _ _ _ _ => pg_name (i := 3) nd rfl (Or.inl rfl)) (fun v2_x _ _ _ _ _ => (px_c3 (m := .fr) C_square_number hr (wx_var (m := .pl) 1 (a := a_ties)) (wx_vn (m := .fr) 2 (a := v1_x)) (wx_vn (m := .fr) 3 (a := v2_x)))))))))) ?_
  intro n ties Q h
  have b := h.1
  have cr : cRg 0 n := by unfold cRg; unfold p_square_numbers at b; omega
  exact ⟨⟨⟨trivial, cr⟩, fun _ _ => ⟨⟨trivial, cr⟩, fun _ _ => ⟨trivial, trivial, trivial, trivial⟩⟩⟩, h.2⟩

def Bd (xs : List Int) : Prop := ∀ x ∈ xs, x.natAbs < 2 ^ 100
theorem Bd.at {xs : List Int} (h : Bd xs) {i : Int} (hi : cIx xs i) : (gIx xs i).natAbs < 2 ^ 100 := h _ (gIx_mem hi)
def p_least_sum (n : Int) (ties : List (Int × Int)) (xs : List Int) : Prop := 0 ≤ n ∧ n ≤ 100 ∧ (xs.length : Int) = n ∧ Bd xs
def f_least_sum (n : Int) (ties : List (Int × Int)) (xs : List Int) : Int := leastL n ties xs

abbrev st_least_sum : Stmt := topS 6
theorem sc_least_sum : FnScope ["n", "ties", "numbers", "table", "i", "j"] ["n", "ties", "numbers"] (defScope st_least_sum) := ⟨rfl, rfl, rfl, by decide +kernel, rfl, by decide +kernel, by decide +kernel⟩
def s_least_sum : Int → (List (Int × Int)) → (List Int) → (Int → Prop) → Prop := (fun a_n a_ties a_numbers => Wp (p_least_sum a_n a_ties a_numbers) (f_least_sum a_n a_ties a_numbers))
theorem ok_least_sum (T : Txt K mg) (D : Df K mg "least_sum" st_least_sum) (C_square_numbers : Cl P w K mg base "square_numbers" 4 ["n", "ties"] (sp2 s_square_numbers)) : Cl P w K mg base "least_sum" 5 ["n", "ties", "numbers"] (sp3 s_least_sum) := by
  refine mkCl D (fun _ _ _ _ _ _ us hl => match us, hl with | [_, _, _], _ => rfl) fun f fd F => ?_
  have nd := sc_least_sum.nd
  refine ok3 (ς := Unit) (G := fun _ => []) (k := 4) (N := ["n", "ties", "numbers", "table", "i", "j"]) F sc_least_sum rfl (fun a_n a_ties a_numbers cdv A outer s H E hr =>
      bx_asg (m := .fr) (px_c2 (m := .fr) C_square_numbers hr (wx_vn (m := .fr) 0 (a := a_n)) (wx_var (m := .pl) 1 (a := a_ties))) nd (i := 3) (fun v1_table =>
      bx_ret (WX.nl (m := .fr) (px_b1 (m := .any) (cr_sum rfl) (dc_sum (K := K)) (by rfl) T.b_sum (by decide +kernel) (WX.le (m := .any) (WN.wx (pn_lc20 (m := .fr) rfl nd (blkOk_by (own := [("i", 4), ("j", 5)]) (N := ["n", "ties", "numbers", "table", "i", "j"]) (by change blkC _ (defScope st_least_sum) _ _ = true; decide +kernel)) (vs1 := [5]) (by decide) (pi_r1 (wi_range1 (k := true) (m := .fr) (wx_vn (m := .fr) 0 (a := a_n)) (by rfl) T.b_range)) (ct_moreN [5] (fun _ => ct_name 4)) (fun _ _ _ _ _ => pg_name (i := 4) nd rfl (Or.inl rfl)) (fun v2_x _ _ _ _ _ => pi_r1 (wi_range1 (k := false) (m := .fr) (wx_vn (m := .fr) 0 (a := a_n)) (by rfl) T.b_range)) (fun v2_x => ct_name 5) (fun _ _ _ _ _ => pg_name (i := 5) nd rfl (Or.inl rfl)) (fun v2_x v3_y _ _ _ _ _ => (px_op (m := .fr) op_mulW dop_I (px_op (m := .fr) op_mulW dop_I (px_ix (m := .fr) ix_list (dop_ix (K := K)) (px_ix (m := .fr) ix_list (dop_ix (K := K)) (wx_var (m := .fr) 3 (a := v1_table)) (wx_vn (m := .fr) 4 (a := v2_x)) (fun _ _ => rfl)) (wx_vn (m := .fr) 5 (a := v3_y)) (fun _ _ => rfl)) (WX.nl (m := .fr) (px_ix (m := .pl) ix_list (dop_ix (K := K)) (wx_var (m := .pl) 2 (a := a_numbers)) (WX.nl (m := .pl) (wx_vn (m := .fr) 4 (a := v2_x))) (fun _ _ => rfl)))) (WX.nl (m := .fr) (px_ix (m := .pl) ix_list (dop_ix (K := K)) (wx_var (m := .pl) 2 (a := a_numbers)) (WX.nl (m := .pl) (wx_vn (m := .fr) 5 (a := v3_y))) (fun _ _ => rfl)))))))))))) ?_
  intro n ties xs Q h
  obtain ⟨⟨n0, n1, hl, bd⟩, h⟩ := h
  have hs := sizeLine_eq
  have cr : cRg 0 n := by unfold cRg; omega
  have ix : ∀ x ∈ rng 0 n, cIx xs x := fun x hx => by
    have := mem_rng.mp hx
    unfold cIx; omega
  have g : f_square_numbers n ties = tabL n ties := rfl
  refine ⟨⟨trivial, trivial, n0, by omega⟩, ⟨⟨⟨trivial, cr⟩, fun x hx => ⟨⟨trivial, cr⟩, fun y hy => ⟨⟨⟨⟨trivial, trivial, ?_⟩, trivial, ?_⟩, ⟨trivial, trivial, ix x hx⟩, ?_⟩, ⟨trivial, trivial, ix y hy⟩, ?_⟩⟩, ?_⟩, trivial⟩, ?_⟩
  · have := mem_rng.mp hx
    refine ⟨this.1, ?_⟩
    rw [g, tab_len]; omega
  · have hx' := mem_rng.mp hx
    have hy' := mem_rng.mp hy
    have cx : cIx (tabL n ties) x := ⟨hx'.1, by rw [tab_len]; omega⟩
    refine ⟨hy'.1, ?_⟩
    rw [g, tab_row (gIx_mem cx)]; omega
  · rw [g, tab_get hx hy]
    exact wide_mul tE_lt (bd.at (ix x hx)) (by decide) (by decide) (by decide)
  · rw [g, tab_get hx hy]
    exact wide_mul (wide_lt tE_lt (bd.at (ix x hx))) (bd.at (ix y hy)) (by decide) (by decide) (by decide)
  · refine Nat.le_trans (flat_len (k := 100) fun x hx => ?_) ?_
    · rw [List.length_map, rng_length]; omega
    · rw [rng_length]; omega
  · rw [sum_flat, sum_map_congr fun x hx => sum_map_congr fun y hy => by rw [g, tab_get hx hy]]
    exact h

def p__law_is_whole (x : Int) : Prop := True
def f__law_is_whole (x : Int) : Bool := true

abbrev st__law_is_whole : Stmt := topS 10
theorem sc__law_is_whole : FnScope ["x"] ["x"] (defScope st__law_is_whole) := ⟨rfl, rfl, rfl, by decide +kernel, rfl, by decide +kernel, by decide +kernel⟩
def s__law_is_whole : Int → (Bool → Prop) → Prop := (fun a_x => Wp (p__law_is_whole a_x) (f__law_is_whole a_x))
theorem ok__law_is_whole (T : Txt K mg) (D : Df K mg "_law_is_whole" st__law_is_whole)  : Cl P w K mg base "_law_is_whole" 1 ["x"] (sp1 s__law_is_whole) := by
  refine mkCl D (fun _ _ _ _ _ _ us hl => match us, hl with | [_], _ => rfl) fun f fd F => ?_
  have nd := sc__law_is_whole.nd
  refine ok1 (ς := Unit) (G := fun _ => []) (k := 0) (N := ["x"]) F sc__law_is_whole rfl (fun a_x cdv A outer s H E hr =>
      bx_ret ((px_and (m := .fr) (WX.nl (m := .any) (px_isi (m := .fr) (t := "int") (cn := "int") (b := true) T.b_isinstance T.b_int (fun a => isiT_I a) (by decide +kernel) (by decide +kernel) rfl (WX.nl (m := .any) (wx_vn (m := .fr) 0 (a := a_x))))) (wx_one (WX.nl (m := .any) (px_not (m := .fr) (WX.nl (m := .any) (px_isi (m := .fr) (t := "int") (cn := "bool") (b := false) T.b_isinstance T.b_bool (fun a => isiT_I a) (by decide +kernel) (by decide +kernel) rfl (WX.nl (m := .any) (wx_vn (m := .fr) 0 (a := a_x))))))))))) ?_
  intro a Q h
  exact ⟨⟨trivial, fun _ => trivial⟩, h.2⟩

def p__law_pairs (n : Int) : Prop := 0 ≤ n ∧ n ≤ 1000
def f__law_pairs (n : Int) : List (Int × Int) := pairsL n

abbrev st__law_pairs : Stmt := topS 11
theorem sc__law_pairs : FnScope ["n", "found", "i", "j"] ["n"] (defScope st__law_pairs) := ⟨rfl, rfl, rfl, by decide +kernel, rfl, by decide +kernel, by decide +kernel⟩
def s__law_pairs : Int → ((List (Int × Int)) → Prop) → Prop := (fun a_n => Wp (p__law_pairs a_n) (f__law_pairs a_n))
theorem ok__law_pairs (T : Txt K mg) (D : Df K mg "_law_pairs" st__law_pairs)  : Cl P w K mg base "_law_pairs" 1 ["n"] (sp1 s__law_pairs) := by
  refine mkCl D (fun _ _ _ _ _ _ us hl => match us, hl with | [_], _ => rfl) fun f fd F => ?_
  have nd := sc__law_pairs.nd
  refine ok1 (ς := Unit) (G := fun _ => []) (k := 0) (N := ["n", "found", "i", "j"]) F sc__law_pairs rfl (fun a_n cdv A outer s H E hr =>
      bx_asg (m := .fr) (WN.wx (wn_lst (m := .fr) (wl_nil (α := (Int × Int))))) nd (i := 1) (fun v1_found =>
      bx_for (m1 := .fr) (G1 := fun (v2_s : (List (Int × Int))) => [.d .pl (enc (a_n : Int)), .d .fr (enc (v2_s : (List (Int × Int)))), .no, .no]) (v1_found) (pi_r1 (wi_range1 (k := false) (m := .fr) (wx_vn (m := .fr) 0 (a := a_n)) (by rfl) T.b_range)) (pg_name (i := 2) nd rfl (Or.inr rfl)) (wk_d (wk_d (wk_no (wk_no wk_nil)))) (fun v2_s => ft_name 2) (fun v3_x v2_s =>
      bx_asg (m := .fr) (WN.wx (pn_cat (m := .fr) (wx_var (m := .fr) 1 (a := v2_s)) (WN.wx (pn_lc0 (m := .fr) rfl nd (blkOk_by (own := [("j", 3)]) (N := ["n", "found", "i", "j"]) (by change blkC _ (defScope st__law_pairs) _ _ = true; decide +kernel)) (pi_r2 (wi_range2 (k := true) (m := .fr) (px_op0 (m := .fr) op_add dop_I0 (wx_vn (m := .fr) 2 (a := v3_x)) (wx_int (m := .fr))) (wx_vn (m := .fr) 0 (a := a_n)) (by rfl) T.b_range)) (ct_name 3) (fun _ _ _ _ _ => pg_name (i := 3) nd rfl (Or.inl rfl)) (fun v4_x _ _ _ _ _ => (px_pair (m := .fr) (wx_vn (m := .fr) 2 (a := v3_x)) (wx_vn (m := .fr) 3 (a := v4_x)))))))) nd (i := 1) (fun v5_found =>
      bx_nil (v5_found) (wk_d (wk_d (wk_no (wk_no wk_nil)))))) (fun v6_s =>
      bx_ret (wx_var (m := .fr) 1 (a := v6_s))) PassesOwn.never)) ?_
  intro n Q h
  obtain ⟨⟨h0, h1⟩, h⟩ := h
  have hs := sizeLine_eq
  refine ⟨trivial, ⟨trivial, by unfold cRg; omega⟩, ?_⟩
  refine forW_app _ [] (fun i x hx => ?_) ⟨trivial, by rw [List.nil_append]; exact h⟩
  have hi := (List.getElem?_eq_some_iff.mp hx).1
  obtain ⟨x0, x1⟩ := mem_rng.mp (List.mem_of_getElem? hx)
  rw [rng_length] at hi
  have l1 := flat_len (k := 1000) (xs := (rng 0 n).take i) (f := fun v => List.map (Prod.mk v) (rng (v + 1) n)) fun y hy => by
    have := (mem_rng.mp (List.mem_of_mem_take hy)).1
    rw [List.length_map, rng_length]; omega
  rw [List.length_take, rng_length] at l1
  refine ⟨trivial, ⟨⟨⟨trivial, trivial⟩, trivial, by unfold cRg; omega⟩, fun _ _ => ⟨trivial, trivial⟩⟩, ?_⟩
  rw [List.nil_append, List.length_map, rng_length]
  omega

def p__law_meet (p q : Int × Int) : Prop := True
def f__law_meet (p q : Int × Int) : Bool := meetL p q

abbrev st__law_meet : Stmt := topS 12
theorem sc__law_meet : FnScope ["one", "other"] ["one", "other"] (defScope st__law_meet) := ⟨rfl, rfl, rfl, by decide +kernel, rfl, by decide +kernel, by decide +kernel⟩
def s__law_meet : (Int × Int) → (Int × Int) → (Bool → Prop) → Prop := (fun a_one a_other => Wp (p__law_meet a_one a_other) (f__law_meet a_one a_other))
theorem ok__law_meet (T : Txt K mg) (D : Df K mg "_law_meet" st__law_meet)  : Cl P w K mg base "_law_meet" 1 ["one", "other"] (sp2 s__law_meet) := by
  refine mkCl D (fun _ _ _ _ _ _ us hl => match us, hl with | [_, _], _ => rfl) fun f fd F => ?_
  have nd := sc__law_meet.nd
  refine ok2 (ς := Unit) (G := fun _ => []) (k := 0) (N := ["one", "other"]) F sc__law_meet rfl (fun a_one a_other cdv A outer s H E hr =>
      bx_ret ((px_or (m := .fr) (WX.nl (m := .any) ((px_cmp (m := .fr) op_in_seq (dop_inT (K := K)) (WX.nl (m := .any) (px_tix (m := .fr) ix_tup (dop_fst (K := K)) (wx_vn (m := .fr) 0 (a := a_one)))) (WX.nl (m := .any) (wx_vn (m := .fr) 1 (a := a_other))) rfl))) (wx_one (WX.nl (m := .any) ((px_cmp (m := .fr) op_in_seq (dop_inT (K := K)) (WX.nl (m := .any) (px_tix (m := .fr) ix_tup (dop_snd (K := K)) (wx_vn (m := .fr) 0 (a := a_one)))) (WX.nl (m := .any) (wx_vn (m := .fr) 1 (a := a_other))) rfl))))))) ?_
  intro p q Q h
  exact ⟨⟨⟨trivial, trivial, trivial⟩, fun _ => ⟨trivial, trivial, trivial⟩⟩, h.2⟩

def p__law_joinings (pairs : List (Int × Int)) : Prop := pairs.length ≤ 1000
def f__law_joinings (pairs : List (Int × Int)) : List (Int × Int) := joinL pairs

abbrev st__law_joinings : Stmt := topS 13
theorem sc__law_joinings : FnScope ["pairs", "found", "i", "j"] ["pairs"] (defScope st__law_joinings) := ⟨rfl, rfl, rfl, by decide +kernel, rfl, by decide +kernel, by decide +kernel⟩
def s__law_joinings : (List (Int × Int)) → ((List (Int × Int)) → Prop) → Prop := (fun a_pairs => Wp (p__law_joinings a_pairs) (f__law_joinings a_pairs))
theorem ok__law_joinings (T : Txt K mg) (D : Df K mg "_law_joinings" st__law_joinings) (C__law_meet : Cl P w K mg base "_law_meet" 1 ["one", "other"] (sp2 s__law_meet)) : Cl P w K mg base "_law_joinings" 2 ["pairs"] (sp1 s__law_joinings) := by
  refine mkCl D (fun _ _ _ _ _ _ us hl => match us, hl with | [_], _ => rfl) fun f fd F => ?_
  have nd := sc__law_joinings.nd
  refine ok1 (ς := Unit) (G := fun _ => []) (k := 1) (N := ["pairs", "found", "i", "j"]) F sc__law_joinings rfl (fun a_pairs cdv A outer s H E hr =>
      bx_asg (m := .fr) (WN.wx (wn_lst (m := .fr) (wl_nil (α := (Int × Int))))) nd (i := 1) (fun v1_found =>
      bx_for (m1 := .fr) (G1 := fun (v2_s : (List (Int × Int))) => [.d .pl (enc (a_pairs : (List (Int × Int)))), .d .fr (enc (v2_s : (List (Int × Int)))), .no, .no]) (v1_found) (pi_r1 (wi_range1 (k := false) (m := .fr) (WX.nl (m := .fr) (px_b1 (m := .any) call_len_seq (dc_len (K := K)) (by rfl) T.b_len (by decide +kernel) (WX.le (m := .any) (wx_var (m := .pl) 0 (a := a_pairs))))) (by rfl) T.b_range)) (pg_name (i := 2) nd rfl (Or.inr rfl)) (wk_d (wk_d (wk_no (wk_no wk_nil)))) (fun v2_s => ft_name 2) (fun v3_x v2_s =>
      bx_asg (m := .fr) (WN.wx (pn_cat (m := .fr) (wx_var (m := .fr) 1 (a := v2_s)) (WN.wx (pn_lc (m := .fr) rfl nd (blkOk_by (own := [("j", 3)]) (N := ["pairs", "found", "i", "j"]) (by change blkC _ (defScope st__law_joinings) _ _ = true; decide +kernel)) (pi_r2 (wi_range2 (k := true) (m := .fr) (px_op0 (m := .fr) op_add dop_I0 (wx_vn (m := .fr) 2 (a := v3_x)) (wx_int (m := .fr))) (WX.nl (m := .fr) (px_b1 (m := .any) call_len_seq (dc_len (K := K)) (by rfl) T.b_len (by decide +kernel) (WX.le (m := .any) (wx_var (m := .pl) 0 (a := a_pairs))))) (by rfl) T.b_range)) (ct_name 3) (fun _ _ _ _ _ => pg_name (i := 3) nd rfl (Or.inl rfl)) (fun v4_x _ _ _ _ _ => wts_one (wt_val (WX.nl (m := .any) (px_c2 (m := .fr) C__law_meet hr (WX.nl (m := .fr) (px_ix (m := .pl) ix_list (dop_ix (K := K)) (wx_var (m := .pl) 0 (a := a_pairs)) (WX.nl (m := .pl) (wx_vn (m := .fr) 2 (a := v3_x))) (fun _ _ => rfl))) (WX.nl (m := .fr) (px_ix (m := .pl) ix_list (dop_ix (K := K)) (wx_var (m := .pl) 0 (a := a_pairs)) (WX.nl (m := .pl) (wx_vn (m := .fr) 3 (a := v4_x))) (fun _ _ => rfl))))))) (fun v4_x _ _ _ _ _ => (px_pair (m := .fr) (wx_vn (m := .fr) 2 (a := v3_x)) (wx_vn (m := .fr) 3 (a := v4_x)))))))) nd (i := 1) (fun v5_found =>
      bx_nil (v5_found) (wk_d (wk_d (wk_no (wk_no wk_nil)))))) (fun v6_s =>
      bx_ret (wx_var (m := .fr) 1 (a := v6_s))) PassesOwn.never)) ?_
  intro pairs Q h
  obtain ⟨h1, h⟩ := h
  have h1 : pairs.length ≤ 1000 := h1
  have hs := sizeLine_eq
  refine ⟨trivial, ⟨⟨trivial, trivial⟩, by unfold cRg; omega⟩, ?_⟩
  refine forW_app _ [] (fun i x hx => ?_) ⟨trivial, by rw [List.nil_append]; exact h⟩
  have hi := (List.getElem?_eq_some_iff.mp hx).1
  obtain ⟨x0, x1⟩ := mem_rng.mp (List.mem_of_getElem? hx)
  rw [rng_length] at hi
  have l1 := flat_len (k := 1000) (xs := (rng 0 (pairs.length : Int)).take i) (f := fun v => List.map (Prod.mk v) (List.filter (fun w => f__law_meet (gIx pairs v) (gIx pairs w)) (rng (v + 1) (pairs.length : Int)))) fun y hy => by
    have := (mem_rng.mp (List.mem_of_mem_take hy)).1
    rw [List.length_map]
    refine Nat.le_trans (List.length_filter_le ..) ?_
    rw [rng_length]; omega
  rw [List.length_take, rng_length] at l1
  refine ⟨trivial, ⟨⟨⟨trivial, trivial⟩, ⟨trivial, trivial⟩, by unfold cRg; omega⟩, fun y hy => ?_⟩, ?_⟩
  · have := mem_rng.mp hy
    exact ⟨⟨⟨trivial, trivial, x0, x1⟩, ⟨trivial, trivial, by omega, this.2⟩, trivial⟩, fun _ => ⟨trivial, trivial⟩⟩
  · rw [List.nil_append, List.length_map]
    have := List.length_filter_le (fun w => f__law_meet (gIx pairs x) (gIx pairs w)) (rng (x + 1) (pairs.length : Int))
    rw [rng_length] at this
    omega

abbrev st__law_names : Stmt := topS 14
theorem sc__law_names : FnScope ["feed", "n", "rest", "order", "k"] ["feed", "n"] (defScope st__law_names) := ⟨rfl, rfl, rfl, by decide +kernel, rfl, by decide +kernel, by decide +kernel⟩
abbrev s__law_names : Int → ((List Int) → Prop) → Prop := s_names
theorem ok__law_names (T : Txt K mg) (D : Df K mg "_law_names" st__law_names) (C__law_draw : Cl P w K mg base "_law_draw" 1 ["feed", "many"] (sf1 s__law_draw)) : Cl P w K mg base "_law_names" 2 ["feed", "n"] (sf1 s__law_names) := by
  refine mkCl D (fun _ _ _ _ _ _ us hl => match us, hl with | [_, _], _ => rfl) fun f fd F => ?_
  have nd := sc__law_names.nd
  refine okF1 (ς := Unit) (G := fun _ => []) (k := 1) (N := ["feed", "n", "rest", "order", "k"]) F sc__law_names rfl (fun a_n cdv A outer s H Fd E hr =>
      bx_setO (α := Int) (m := .fr) (as_lcP0 (m := .fr) (i := 2) rfl nd rfl rfl (sw_true rfl rfl rfl (by decide +kernel)) (blkOk_by (own := [("k", 4)]) (N := ["feed", "n", "rest", "order", "k"]) (by change blkC _ (defScope st__law_names) _ _ = true; decide +kernel)) (pi_r1 (wi_range1 (k := true) (m := .fr) (wx_vn (m := .fr) 1 (a := a_n)) (by rfl) T.b_range)) (ct_name 4) (fun _ _ _ _ _ => pg_name (i := 4) nd rfl (Or.inl rfl)) (fun v1_x _ _ _ _ _ => (wx_vn (m := .fr) 4 (a := v1_x)))) mono_wp (fun v2_rest =>
      bx_own (m := .fr) (wn_lst (m := .fr) (wl_nil (α := Int))) nd (i := 3) (fun v3_order =>
      bx_for (m1 := .fr) (G1 := fun (v4_s : (List Int) × (List Int)) => [.fd, .d .pl (enc (a_n : Int)), .own .fr (List.map enc (v4_s.1 : (List Int))), .own .fr (List.map enc (v4_s.2 : (List Int))), .no]) (v2_rest, v3_order) (pi_r1 (wi_range1 (k := false) (m := .fr) (wx_vn (m := .fr) 1 (a := a_n)) (by rfl) T.b_range)) (pg_name (i := 4) nd rfl (Or.inl rfl)) (wk_fd (wk_d (wk_own (wk_own (wk_no wk_nil))))) (fun v4_s => ft_name 4) (fun v5_x v4_s =>
      bx_appPop 3 (ys := v4_s.2) (ox_popAt 2 (xs := v4_s.1) (wx_d1 (m := .fr) C__law_draw hr ms_draw (WX.nl (m := .fr) (px_b1 (m := .any) call_len_seq (dc_len (K := K)) (by rfl) T.b_len (by decide +kernel) (wx_own 2 (a := v4_s.1)))) 0)) (fun v6_q =>
      bx_nil (v6_q.2, (v4_s.2 ++ [v6_q.1])) (wk_fd (wk_d (wk_own (wk_own (wk_no wk_nil))))))) (fun v7_s =>
      bx_wk (Γ' := [.fd, .d .pl (enc (a_n : Int)), .own .fr (List.map enc (v7_s.1 : (List Int))), .d .fr (enc (v7_s.2 : (List Int))), .no]) (wk_fd (wk_d (wk_own (wk_fz (wk_no wk_nil))))) (
      bx_ret (wx_var (m := .fr) 3 (a := v7_s.2)))) PassesOwn.never))) ?_
  intro n Q h
  have b := h.1
  refine ⟨⟨⟨trivial, by unfold cRg; omega⟩, fun _ _ => trivial⟩, trivial, ⟨trivial, by unfold cRg; omega⟩, ?_⟩
  rw [show (rng 0 n).map (fun v => v) = rng 0 n from List.map_id' _]
  exact w_names h

def p__law_tie (i j : Int) : Prop := True
def f__law_tie (i j : Int) : Int × Int := tieL i j

abbrev st__law_tie : Stmt := topS 15
theorem sc__law_tie : FnScope ["i", "j"] ["i", "j"] (defScope st__law_tie) := ⟨rfl, rfl, rfl, by decide +kernel, rfl, by decide +kernel, by decide +kernel⟩
def s__law_tie : Int → Int → ((Int × Int) → Prop) → Prop := (fun a_i a_j => Wp (p__law_tie a_i a_j) (f__law_tie a_i a_j))
theorem ok__law_tie (T : Txt K mg) (D : Df K mg "_law_tie" st__law_tie)  : Cl P w K mg base "_law_tie" 1 ["i", "j"] (sp2 s__law_tie) := by
  refine mkCl D (fun _ _ _ _ _ _ us hl => match us, hl with | [_, _], _ => rfl) fun f fd F => ?_
  have nd := sc__law_tie.nd
  refine ok2 (ς := Unit) (G := fun _ => []) (k := 0) (N := ["i", "j"]) F sc__law_tie rfl (fun a_i a_j cdv A outer s H E hr =>
      bx_ret (px_pair (m := .fr) (px_b2 (m := .fr) (call_min2 rfl) dc_min2 (by rfl) T.b_min (by decide +kernel) (wx_vn (m := .fr) 0 (a := a_i)) (wx_vn (m := .fr) 1 (a := a_j))) (px_b2 (m := .fr) (call_max2 rfl) dc_max2 (by rfl) T.b_max (by decide +kernel) (wx_vn (m := .fr) 0 (a := a_i)) (wx_vn (m := .fr) 1 (a := a_j))))) ?_
  intro i j Q h
  exact ⟨⟨⟨trivial, trivial, trivial⟩, trivial, trivial, trivial⟩, h.2⟩

def p__law_renamed (ties : List (Int × Int)) (names : List Int) : Prop := ∀ p ∈ ties, cIx names p.1 ∧ cIx names p.2
def f__law_renamed (ties : List (Int × Int)) (names : List Int) : List (Int × Int) := renL ties names

abbrev st__law_renamed : Stmt := topS 16
theorem sc__law_renamed : FnScope ["ties", "names", "i", "j"] ["ties", "names"] (defScope st__law_renamed) := ⟨rfl, rfl, rfl, by decide +kernel, rfl, by decide +kernel, by decide +kernel⟩
def s__law_renamed : (List (Int × Int)) → (List Int) → ((List (Int × Int)) → Prop) → Prop := (fun a_ties a_names => Wp (p__law_renamed a_ties a_names) (f__law_renamed a_ties a_names))
theorem ok__law_renamed (T : Txt K mg) (D : Df K mg "_law_renamed" st__law_renamed) (C__law_tie : Cl P w K mg base "_law_tie" 1 ["i", "j"] (sp2 s__law_tie)) : Cl P w K mg base "_law_renamed" 2 ["ties", "names"] (sp2 s__law_renamed) := by
  refine mkCl D (fun _ _ _ _ _ _ us hl => match us, hl with | [_, _], _ => rfl) fun f fd F => ?_
  have nd := sc__law_renamed.nd
  refine ok2 (ς := Unit) (G := fun _ => []) (k := 1) (N := ["ties", "names", "i", "j"]) F sc__law_renamed rfl (fun a_ties a_names cdv A outer s H E hr =>
      bx_ret (WN.wx (pn_imp1 (wn_b1 (m := .fr) cr_sortedPO (dn_sortP (K := K)) (by rfl) T.b_sorted (by decide +kernel) (WN.wx (pn_lc0 (m := .fr) rfl nd (blkOk_by (own := [("i", 2), ("j", 3)]) (N := ["ties", "names", "i", "j"]) (by change blkC _ (defScope st__law_renamed) _ _ = true; decide +kernel)) (wi_listA (m := .fr) (wx_var (m := .pl) 0 (a := a_ties))) (ct_pair (K := K) 2 3) (fun _ _ _ _ _ => pg_tup rfl (pgs_cons (pg_name (i := 2) nd rfl (Or.inl rfl)) (pgs_cons (pg_name (i := 3) nd rfl (Or.inl rfl)) pgs_nil))) (fun v1_x _ _ _ _ _ => (px_c2 (m := .fr) C__law_tie hr (WX.nl (m := .fr) (px_ix (m := .pl) ix_list (dop_ix (K := K)) (wx_var (m := .pl) 1 (a := a_names)) (WX.nl (m := .pl) (wx_vn (m := .fr) 2 (a := v1_x.1))) (fun _ _ => rfl))) (WX.nl (m := .fr) (px_ix (m := .pl) ix_list (dop_ix (K := K)) (wx_var (m := .pl) 1 (a := a_names)) (WX.nl (m := .pl) (wx_vn (m := .fr) 3 (a := v1_x.2))) (fun _ _ => rfl))))))))))) ?_
  intro ties names Q h
  exact ⟨⟨trivial, fun p hp => ⟨⟨trivial, trivial, (h.1 p hp).1⟩, ⟨trivial, trivial, (h.1 p hp).2⟩, trivial⟩⟩, h.2⟩

abbrev st__law_many : Stmt := topS 17
theorem sc__law_many : FnScope ["feed", "n", "m", "every", "ties", "k"] ["feed", "n", "m"] (defScope st__law_many) := ⟨rfl, rfl, rfl, by decide +kernel, rfl, by decide +kernel, by decide +kernel⟩
abbrev s__law_many : Int → Int → ((List (Int × Int)) → Prop) → Prop := s_many
theorem ok__law_many (T : Txt K mg) (D : Df K mg "_law_many" st__law_many) (C__law_pairs : Cl P w K mg base "_law_pairs" 1 ["n"] (sp1 s__law_pairs)) (C__law_draw : Cl P w K mg base "_law_draw" 1 ["feed", "many"] (sf1 s__law_draw)) : Cl P w K mg base "_law_many" 2 ["feed", "n", "m"] (sf2 s__law_many) := by
  refine mkCl D (fun _ _ _ _ _ _ us hl => match us, hl with | [_, _, _], _ => rfl) fun f fd F => ?_
  have nd := sc__law_many.nd
  refine okF2 (ς := Unit) (G := fun _ => []) (k := 1) (N := ["feed", "n", "m", "every", "ties", "k"]) F sc__law_many rfl (fun a_n a_m cdv A outer s H Fd E hr =>
      bx_own (m := .fr) (WR.wn (m := .fr) (pr_c1 C__law_pairs hr (wx_vn (m := .fr) 1 (a := a_n)))) nd (i := 3) (fun v1_every =>
      bx_own (m := .fr) (wn_lst (m := .fr) (wl_nil (α := (Int × Int)))) nd (i := 4) (fun v2_ties =>
      bx_for (m1 := .fr) (G1 := fun (v3_s : (List (Int × Int)) × (List (Int × Int))) => [.fd, .d .pl (enc (a_n : Int)), .d .pl (enc (a_m : Int)), .own .fr (List.map enc (v3_s.1 : (List (Int × Int)))), .own .fr (List.map enc (v3_s.2 : (List (Int × Int)))), .no]) (v1_every, v2_ties) (pi_r1 (wi_range1 (k := false) (m := .fr) (wx_vn (m := .fr) 2 (a := a_m)) (by rfl) T.b_range)) (pg_name (i := 5) nd rfl (Or.inl rfl)) (wk_fd (wk_d (wk_d (wk_own (wk_own (wk_no wk_nil)))))) (fun v3_s => ft_name 5) (fun v4_x v3_s =>
      bx_if (G1 := fun (v5_s : (List (Int × Int)) × (List (Int × Int))) => [.fd, .d .pl (enc (a_n : Int)), .d .pl (enc (a_m : Int)), .own .fr (List.map enc (v5_s.1 : (List (Int × Int)))), .own .fr (List.map enc (v5_s.2 : (List (Int × Int)))), .d .fr (enc (v4_x : Int))]) (pt_cmp' op_gt dop_B0 (WX.nl (m := .any) (WX.nl (m := .fr) (px_b1 (m := .any) call_len_seq (dc_len (K := K)) (by rfl) T.b_len (by decide +kernel) (wx_own 3 (a := v3_s.1))))) (wx_int (m := .any)) (nomark _)) (
      bx_appPop 4 (ys := v3_s.2) (ox_popAt 3 (xs := v3_s.1) (wx_d1 (m := .fr) C__law_draw hr ms_draw (WX.nl (m := .fr) (px_b1 (m := .any) call_len_seq (dc_len (K := K)) (by rfl) T.b_len (by decide +kernel) (wx_own 3 (a := v3_s.1)))) 0)) (fun v6_q =>
      bx_nil (v6_q.2, (v3_s.2 ++ [v6_q.1])) (wk_fd (wk_d (wk_d (wk_own (wk_own (wk_d wk_nil)))))))) (
      bx_nil (v3_s.1, v3_s.2) (wk_fd (wk_d (wk_d (wk_own (wk_own (wk_d wk_nil))))))) (fun v5_s =>
      bx_nil (v5_s.1, v5_s.2) (wk_fd (wk_d (wk_d (wk_own (wk_own (wk_no wk_nil)))))))) (fun v7_s =>
      bx_ret (WN.wx (wn_up (m := .fr) (pn_imp1 (wn_b1 (m := .any) cr_sortedPO (dn_sortP (K := K)) (by rfl) T.b_sorted (by decide +kernel) (wx_own 4 (a := v7_s.2))))))) PassesOwn.never))) ?_
  intro n m Q h
  obtain ⟨⟨h0, h1, hm, h2⟩, h⟩ := h
  have hs := sizeLine_eq
  refine ⟨⟨trivial, h0, by omega⟩, trivial, ⟨trivial, by unfold cRg; omega⟩, ?_⟩
  refine forW_cps _ (fun i s => (s.2 ++ s.1).Perm (pairsL n) ∧ s.2.length ≤ i) _ ⟨.refl _, Nat.le_refl _⟩ ?_ ?_
  · rintro i ⟨every, ties⟩ x N' hx ⟨hp, hl⟩ hN
    have hi := (List.getElem?_eq_some_iff.mp hx).1
    rw [rng_length] at hi
    have hlen := hp.length_eq
    have hp2 := flat_len (k := 1000) (xs := rng 0 n) (f := fun v => List.map (Prod.mk v) (rng (v + 1) n)) fun y hy => by
      have := (mem_rng.mp hy).1
      rw [List.length_map, rng_length]; omega
    rw [rng_length, show ((rng 0 n).flatMap fun v => List.map (Prod.mk v) (rng (v + 1) n)) = pairsL n from rfl] at hp2
    simp only [List.length_append] at hlen
    simp only at hl
    refine ⟨⟨⟨trivial, trivial⟩, trivial, trivial⟩, ?_⟩
    refine ite_ (fun he => ?_) (fun he => ?_)
    · have he : (0 : Int) < (every.length : Int) := of_decide_eq_true he
      refine ⟨⟨trivial, trivial⟩, ⟨he, by show (every.length : Int) < _; omega⟩, fun k k0 k1 => ⟨⟨k0, k1⟩, by show ties.length < sizeLine; omega, hN _ ⟨?_, ?_⟩⟩⟩
      · show ((ties ++ [gIx every k]) ++ every.eraseIdx k.toNat).Perm (pairsL n)
        rw [List.append_assoc]
        exact (List.Perm.append_left ties (perm_erase (gIx_get ⟨k0, k1⟩))).trans hp
      · show (ties ++ [_]).length ≤ i + 1
        rw [List.length_append, List.length_singleton]
        omega
    · exact hN _ ⟨hp, by show ties.length ≤ i + 1; omega⟩
  · rintro ⟨every, ties⟩ ⟨hp, hl⟩
    rw [rng_length] at hl
    simp only at hl
    have ht : Tn n ties := ((pairsL_tn n).perm hp).sub (List.sublist_append_left ..)
    refine ⟨trivial, h _ ht.srt ?_⟩
    rw [(srt_perm leP ties).length_eq]
    omega

abbrev st__law_shape : Stmt := topS 18
theorem sc__law_shape : FnScope ["feed", "n", "most", "shape", "ties", "k", "thick", "pair"] ["feed", "n", "most"] (defScope st__law_shape) := ⟨rfl, rfl, rfl, by decide +kernel, rfl, by decide +kernel, by decide +kernel⟩
abbrev s__law_shape : Int → Int → ((List (Int × Int)) → Prop) → Prop := s_shape
theorem ok__law_shape (T : Txt K mg) (D : Df K mg "_law_shape" st__law_shape) (C__law_draw : Cl P w K mg base "_law_draw" 1 ["feed", "many"] (sf1 s__law_draw)) (C__law_pairs : Cl P w K mg base "_law_pairs" 1 ["n"] (sp1 s__law_pairs)) (C__law_renamed : Cl P w K mg base "_law_renamed" 2 ["ties", "names"] (sp2 s__law_renamed)) (C__law_names : Cl P w K mg base "_law_names" 2 ["feed", "n"] (sf1 s__law_names)) : Cl P w K mg base "_law_shape" 3 ["feed", "n", "most"] (sf2 s__law_shape) := by
  refine mkCl D (fun _ _ _ _ _ _ us hl => match us, hl with | [_, _, _], _ => rfl) fun f fd F => ?_
  have nd := sc__law_shape.nd
  refine okF2 (ς := Unit) (G := fun _ => []) (k := 2) (N := ["feed", "n", "most", "shape", "ties", "k", "thick", "pair"]) F sc__law_shape rfl (fun a_n a_most cdv A outer s H Fd E hr =>
      bx_asg (m := .fr) (wx_d1 (m := .fr) C__law_draw hr ms_draw (wx_int : WX _ _ _ .fr _ _) 0) nd (i := 3) (fun v1_shape =>
      bx_asg (m := .fr) (px_c1 (m := .fr) C__law_pairs hr (wx_vn (m := .fr) 1 (a := a_n))) nd (i := 4) (fun v2_ties =>
      bx_if (G1 := fun (v3_s : (List (Int × Int))) => [.fd, .d .pl (enc (a_n : Int)), .d .pl (enc (a_most : Int)), .d .fr (enc (v1_shape : Int)), .d .fr (enc (v3_s : (List (Int × Int)))), .no, .no, .no]) (pt_cmp' (op_eqD (Room.units hr)) (dop_eq (K := K)) (WX.nl (m := .any) (wx_vn (m := .fr) 3 (a := v1_shape))) (wx_int (m := .any)) (nomark _)) (
      bx_set (α := (List (Int × Int))) (m := .fr) (AS.d (as_lcP0 (m := .fr) (i := 4) rfl nd rfl rfl (sw_true rfl rfl rfl (by decide +kernel)) (blkOk_by (own := [("k", 5)]) (N := ["feed", "n", "most", "shape", "ties", "k", "thick", "pair"]) (by change blkC _ (defScope st__law_shape) _ _ = true; decide +kernel)) (pi_r1 (wi_range1 (k := true) (m := .fr) (px_op0 (m := .fr) op_sub dop_I0 (wx_vn (m := .fr) 1 (a := a_n)) (wx_int (m := .fr))) (by rfl) T.b_range)) (ct_name 5) (fun _ _ _ _ _ => pg_name (i := 5) nd rfl (Or.inl rfl)) (fun v4_x _ _ _ _ _ => (px_pair (m := .fr) (wx_vn (m := .fr) 5 (a := v4_x)) (px_op0 (m := .fr) op_add dop_I0 (wx_vn (m := .fr) 5 (a := v4_x)) (wx_int (m := .fr)))))) mono_wp) mono_wp (fun v5_ties =>
      bx_nil (v5_ties) (wk_fd (wk_d (wk_d (wk_d (wk_d (wk_no (wk_no (wk_no wk_nil)))))))))) (
      bx_if (G1 := fun (v6_s : (List (Int × Int))) => [.fd, .d .pl (enc (a_n : Int)), .d .pl (enc (a_most : Int)), .d .fr (enc (v1_shape : Int)), .d .fr (enc (v6_s : (List (Int × Int)))), .no, .no, .no]) (WTw.t (ptw_and (pt_cmp' (op_eqD (Room.units hr)) (dop_eq (K := K)) (WX.nl (m := .any) (wx_vn (m := .fr) 3 (a := v1_shape))) (wx_int (m := .any)) (nomark _)) (wt_and1 (pt_cmp' op_gt dop_B0 (WX.nl (m := .any) (wx_vn (m := .fr) 1 (a := a_n))) (wx_int (m := .any)) (nomark _))))) (
      bx_asg (m := .fr) (WN.wx (pn_cat (m := .fr) (WN.wx (pn_lc0 (m := .fr) rfl nd (blkOk_by (own := [("k", 5)]) (N := ["feed", "n", "most", "shape", "ties", "k", "thick", "pair"]) (by change blkC _ (defScope st__law_shape) _ _ = true; decide +kernel)) (pi_r1 (wi_range1 (k := true) (m := .fr) (px_op0 (m := .fr) op_sub dop_I0 (wx_vn (m := .fr) 1 (a := a_n)) (wx_int (m := .fr))) (by rfl) T.b_range)) (ct_name 5) (fun _ _ _ _ _ => pg_name (i := 5) nd rfl (Or.inl rfl)) (fun v7_x _ _ _ _ _ => (px_pair (m := .fr) (wx_vn (m := .fr) 5 (a := v7_x)) (px_op0 (m := .fr) op_add dop_I0 (wx_vn (m := .fr) 5 (a := v7_x)) (wx_int (m := .fr))))))) (WN.wx (wn_lst (m := .fr) (pl_cons (px_pair (m := .fr) (wx_int (m := .fr)) (px_op0 (m := .fr) op_sub dop_I0 (wx_vn (m := .fr) 1 (a := a_n)) (wx_int (m := .fr)))) (wl_nil (α := (Int × Int)))))))) nd (i := 4) (fun v8_ties =>
      bx_nil (v8_ties) (wk_fd (wk_d (wk_d (wk_d (wk_d (wk_no (wk_no (wk_no wk_nil)))))))))) (
      bx_if (G1 := fun (v9_s : (List (Int × Int))) => [.fd, .d .pl (enc (a_n : Int)), .d .pl (enc (a_most : Int)), .d .fr (enc (v1_shape : Int)), .d .fr (enc (v9_s : (List (Int × Int)))), .no, .no, .no]) (pt_cmp' (op_eqD (Room.units hr)) (dop_eq (K := K)) (WX.nl (m := .any) (wx_vn (m := .fr) 3 (a := v1_shape))) (wx_int (m := .any)) (nomark _)) (
      bx_set (α := (List (Int × Int))) (m := .fr) (AS.d (as_lcP0 (m := .fr) (i := 4) rfl nd rfl rfl (sw_true rfl rfl rfl (by decide +kernel)) (blkOk_by (own := [("k", 5)]) (N := ["feed", "n", "most", "shape", "ties", "k", "thick", "pair"]) (by change blkC _ (defScope st__law_shape) _ _ = true; decide +kernel)) (pi_r2 (wi_range2 (k := true) (m := .fr) (wx_int (m := .fr)) (wx_vn (m := .fr) 1 (a := a_n)) (by rfl) T.b_range)) (ct_name 5) (fun _ _ _ _ _ => pg_name (i := 5) nd rfl (Or.inl rfl)) (fun v10_x _ _ _ _ _ => (px_pair (m := .fr) (wx_int (m := .fr)) (wx_vn (m := .fr) 5 (a := v10_x))))) mono_wp) mono_wp (fun v11_ties =>
      bx_nil (v11_ties) (wk_fd (wk_d (wk_d (wk_d (wk_d (wk_no (wk_no (wk_no wk_nil)))))))))) (
      bx_if (G1 := fun (v12_s : (List (Int × Int))) => [.fd, .d .pl (enc (a_n : Int)), .d .pl (enc (a_most : Int)), .d .fr (enc (v1_shape : Int)), .d .fr (enc (v12_s : (List (Int × Int)))), .no, .no, .no]) (pt_cmp' (op_eqD (Room.units hr)) (dop_eq (K := K)) (WX.nl (m := .any) (wx_vn (m := .fr) 3 (a := v1_shape))) (wx_int (m := .any)) (nomark _)) (
      bx_setP (α := (Int × Int)) (m := .fr) (as_lc (m := .fr) (i := 4) rfl nd rfl rfl (sw_true rfl rfl rfl (by decide +kernel)) (blkOk_by (own := [("k", 5)]) (N := ["feed", "n", "most", "shape", "ties", "k", "thick", "pair"]) (by change blkC _ (defScope st__law_shape) _ _ = true; decide +kernel)) (pi_r2 (wi_range2 (k := true) (m := .fr) (wx_int (m := .fr)) (wx_vn (m := .fr) 1 (a := a_n)) (by rfl) T.b_range)) (ct_name 5) (fun _ _ _ _ _ => pg_name (i := 5) nd rfl (Or.inl rfl)) (fun v13_x _ _ _ _ _ => wts_nil) (fun v13_x _ _ _ _ _ => (wx_pair (m := .fr) (wx_d1 (m := .fr) C__law_draw hr ms_draw (wx_vn (m := .fr) 5 (a := v13_x)) 0) (wx_vn (m := .fr) 5 (a := v13_x))))) (fun v14_ties =>
      bx_nil (v14_ties) (wk_fd (wk_d (wk_d (wk_d (wk_d (wk_no (wk_no (wk_no wk_nil)))))))))) (
      bx_if (G1 := fun (v15_s : (List (Int × Int))) => [.fd, .d .pl (enc (a_n : Int)), .d .pl (enc (a_most : Int)), .d .fr (enc (v1_shape : Int)), .d .fr (enc (v15_s : (List (Int × Int)))), .no, .no, .no]) (pt_cmp' op_gt dop_B0 (WX.nl (m := .any) (wx_vn (m := .fr) 3 (a := v1_shape))) (wx_int (m := .any)) (nomark _)) (
      bx_asg (m := .fr) (wx_op (m := .fr) op_add dop_I0 (wx_int (m := .fr)) (wx_d1 (m := .fr) C__law_draw hr ms_draw (wx_int : WX _ _ _ .fr _ _) 0)) nd (i := 6) (fun v16_thick =>
      bx_setP (α := (Int × Int)) (m := .fr) (as_lc (m := .fr) (i := 4) rfl nd rfl rfl (sw_true rfl rfl rfl (by decide +kernel)) (blkOk_by (own := [("pair", 7)]) (N := ["feed", "n", "most", "shape", "ties", "k", "thick", "pair"]) (by change blkC _ (defScope st__law_shape) _ _ = true; decide +kernel)) (wi_listA (m := .fr) (wx_var (m := .fr) 4 (a := v2_ties))) (ct_name 7) (fun _ _ _ _ _ => pg_name (i := 7) nd rfl (Or.inl rfl)) (fun v17_x _ _ _ _ _ => wts_one (wt_cmp op_lt dop_B0 (WX.nl (m := .any) (wx_d1 (m := .fr) C__law_draw hr ms_draw (wx_int : WX _ _ _ .fr _ _) 0)) (WX.nl (m := .any) (wx_vn (m := .fr) 6 (a := v16_thick))) (nomark _))) (fun v17_x _ _ _ _ _ => (wx_vn (m := .fr) 7 (a := v17_x)))) (fun v18_ties =>
      bx_nil (v18_ties) (wk_fd (wk_d (wk_d (wk_d (wk_d (wk_no (wk_no (wk_no wk_nil))))))))))) (
      bx_nil (v2_ties) (wk_fd (wk_d (wk_d (wk_d (wk_d (wk_no (wk_no (wk_no wk_nil))))))))) (fun v15_s =>
      bx_nil (v15_s) (wk_fd (wk_d (wk_d (wk_d (wk_d (wk_no (wk_no (wk_no wk_nil)))))))))) (fun v12_s =>
      bx_nil (v12_s) (wk_fd (wk_d (wk_d (wk_d (wk_d (wk_no (wk_no (wk_no wk_nil)))))))))) (fun v9_s =>
      bx_nil (v9_s) (wk_fd (wk_d (wk_d (wk_d (wk_d (wk_no (wk_no (wk_no wk_nil)))))))))) (fun v6_s =>
      bx_nil (v6_s) (wk_fd (wk_d (wk_d (wk_d (wk_d (wk_no (wk_no (wk_no wk_nil)))))))))) (fun v3_s =>
      bx_ret (WN.wx (wn_slice (m := .fr) (wx_c2 (m := .fr) C__law_renamed hr (fun _ _ => mono_wp) (wx_var (m := .fr) 4 (a := v3_s)) (wx_d1 (m := .fr) C__law_names hr ms_names (wx_vn (m := .fr) 1 (a := a_n)) 0)) wo_none (po_someP (WX.nl (m := .any) (wx_vn (m := .fr) 2 (a := a_most)))))))))) ?_
  intro n most Q h
  obtain ⟨⟨h0, h1, h2⟩, h⟩ := h
  have hs := sizeLine_eq
  have fin : ∀ t : List (Int × Int), Tn n t → Wp True t fun a0 => Wp True n fun a0_1 => s_names a0_1 fun a1 => s__law_renamed a0 a1 fun xs => Wp True none fun a => Wp True (some most) fun b => Q (cutL a b xs) := fun t ht =>
    ⟨trivial, trivial, ⟨h0, by omega⟩, fun p hp => ⟨fun q hq => by
      obtain ⟨q0, q1, q2⟩ := ht.2 q hq
      exact ⟨hp.ix q0 (by omega), hp.ix (by omega) q2⟩, trivial, trivial, by
        have hw := renL_web ht hp
        show Q (cutL none (some most) (renL t p))
        rw [cutL_take h2]
        exact h _ (hw.sub (List.take_sublist _ _)) (by rw [List.length_take]; omega)⟩⟩
  refine ⟨trivial, ⟨by decide, by decide⟩, fun a a0 a1 => ⟨⟨trivial, h0, by omega⟩, ⟨trivial, trivial, trivial⟩, ?_⟩⟩
  refine ite_ (fun _ => ?_) fun _ => ⟨⟨⟨trivial, trivial, trivial⟩, fun _ => ⟨trivial, trivial, trivial⟩⟩, ite_ (fun hc => ?_) fun _ => ⟨⟨trivial, trivial, trivial⟩, ite_ (fun _ => ?_) fun _ => ⟨⟨trivial, trivial, trivial⟩, ite_ (fun _ => ?_) fun _ => ⟨⟨trivial, trivial, trivial⟩, ite_ (fun _ => ?_) fun _ => ?_⟩⟩⟩⟩
  · exact ⟨⟨⟨⟨trivial, trivial⟩, by unfold cRg; omega⟩, fun _ _ => ⟨trivial, trivial, trivial⟩⟩, fin _ (path_tn n)⟩
  · have hn : 2 < n := of_decide_eq_true (Bool.and_eq_true_iff.mp hc).2
    refine ⟨⟨⟨⟨⟨trivial, trivial⟩, by unfold cRg; omega⟩, fun _ _ => ⟨trivial, trivial, trivial⟩⟩, ⟨⟨trivial, trivial, trivial⟩, trivial⟩, ?_⟩, fin _ (ring_tn hn)⟩
    rw [List.length_map, rng_length, List.length_singleton]
    omega
  · exact ⟨⟨⟨trivial, trivial, by unfold cRg; omega⟩, fun _ _ => ⟨trivial, trivial⟩⟩, fin _ (star_tn n)⟩
  · refine ⟨⟨trivial, trivial, by unfold cRg; omega⟩, ?_⟩
    refine lcW_all _ (fun i ys => ys.map Prod.snd = (rng 1 n).take i ∧ ∀ p ∈ ys, 0 ≤ p.1 ∧ p.1 < p.2) [] ⟨rfl, fun _ h => nomatch h⟩ ?_ ?_
    · rintro i x ys N hx ⟨e, hy⟩ hN
      obtain ⟨x0, x1⟩ := mem_rng.mp (List.mem_of_getElem? hx)
      refine ⟨trivial, ⟨by show 0 < x; omega, by show x < _; omega⟩, fun k k0 k1 => ⟨trivial, hN _ ⟨?_, fun p hp => ?_⟩⟩⟩
      · rw [List.map_append, e, List.take_add_one, hx]
        rfl
      · rcases List.mem_append.mp hp with hp | hp
        · exact hy p hp
        · rw [List.mem_singleton.mp hp]
          exact ⟨k0, k1⟩
    · rintro ys ⟨e, hy⟩
      rw [List.take_length] at e
      exact fin _ (tree_tn e hy)
  · refine ⟨trivial, trivial, ⟨by decide, by decide⟩, fun b b0 b1 => ⟨trivial, trivial, ?_⟩⟩
    refine lcW_part (fun x N n1 n2 => ⟨trivial, ⟨by decide, by decide⟩, fun c c0 c1 => ⟨trivial, trivial, ?_⟩⟩) _ [] fun ys hy => fin _ ((pairsL_tn n).sub hy)
    by_cases hd : c < 1 + b
    · rw [decide_eq_true hd]; exact n1
    · rw [decide_eq_false hd]; exact n2
  · exact fin _ (pairsL_tn n)

def p__law_table (n : Int) (ties : List (Int × Int)) : Prop := (0 ≤ n ∧ n ≤ 1000) ∧ Tn n ties
def f__law_table (n : Int) (ties : List (Int × Int)) : List (List Int) := tabL n ties

abbrev st__law_table : Stmt := topS 19
theorem sc__law_table : FnScope ["n", "ties", "i", "j"] ["n", "ties"] (defScope st__law_table) := ⟨rfl, rfl, rfl, by decide +kernel, rfl, by decide +kernel, by decide +kernel⟩
def s__law_table : Int → (List (Int × Int)) → ((List (List Int)) → Prop) → Prop := (fun a_n a_ties => Wp (p__law_table a_n a_ties) (f__law_table a_n a_ties))
theorem ok__law_table (T : Txt K mg) (D : Df K mg "_law_table" st__law_table) (C__law_tie : Cl P w K mg base "_law_tie" 1 ["i", "j"] (sp2 s__law_tie)) : Cl P w K mg base "_law_table" 2 ["n", "ties"] (sp2 s__law_table) := by
  refine mkCl D (fun _ _ _ _ _ _ us hl => match us, hl with | [_, _], _ => rfl) fun f fd F => ?_
  have nd := sc__law_table.nd
  refine ok2 (ς := Unit) (G := fun _ => []) (k := 1) (N := ["n", "ties", "i", "j"]) F sc__law_table rfl (fun a_n a_ties cdv A outer s H E hr =>
      bx_ret (WN.wx (pn_lc0 (m := .fr) rfl nd (blkOk_by (own := [("i", 2)]) (N := ["n", "ties", "i", "j"]) (by change blkC _ (defScope st__law_table) _ _ = true; decide +kernel)) (pi_r1 (wi_range1 (k := true) (m := .fr) (wx_vn (m := .fr) 0 (a := a_n)) (by rfl) T.b_range)) (ct_name 2) (fun _ _ _ _ _ => pg_name (i := 2) nd rfl (Or.inr rfl)) (fun v1_x _ _ _ _ _ => (WN.wx (pn_lc0 (m := .fr) rfl nd (blkOk_bk (own := [("j", 3)]) (N := ["n", "ties", "i", "j"]) (by decide +kernel)) (pi_r1 (wi_range1 (k := true) (m := .fr) (wx_vn (m := .fr) 0 (a := a_n)) (by rfl) T.b_range)) (ct_name 3) (fun _ _ _ _ _ => pg_name (i := 3) nd rfl (Or.inl rfl)) (fun v2_x _ _ _ _ _ => (px_op0 (m := .fr) op_add dop_I0 (px_op (m := .fr) op_mul dop_I (wx_int (m := .fr)) (px_ty1 (m := .fr) call_int1 dc_intB (by rfl) T.b_int (by decide +kernel) ((px_cmp (m := .fr) (op_eqD (Room.units hr)) (dop_eq (K := K)) (WX.nl (m := .any) (wx_vn (m := .fr) 2 (a := v1_x))) (WX.nl (m := .any) (wx_vn (m := .fr) 3 (a := v2_x))) (nomark _))))) (px_ty1 (m := .fr) call_int1 dc_intB (by rfl) T.b_int (by decide +kernel) ((px_cmp (m := .fr) (op_inD (Room.un65 hr)) (dop_in (K := K)) (WX.nl (m := .any) (px_c2 (m := .fr) C__law_tie hr (wx_vn (m := .fr) 2 (a := v1_x)) (wx_vn (m := .fr) 3 (a := v2_x)))) (WX.le (m := .any) (wx_var (m := .pl) 1 (a := a_ties))) rfl))))))))))) ?_
  intro n ties Q h
  obtain ⟨⟨⟨n0, n1⟩, ht⟩, h⟩ := h
  have cr : cRg 0 n := by unfold cRg; omega
  refine ⟨⟨⟨trivial, cr⟩, fun x hx => ⟨⟨trivial, cr⟩, fun y hy => ⟨⟨trivial, ⟨⟨trivial, trivial, trivial⟩, trivial⟩, .inl ⟨by decide, by decide⟩⟩, ⟨⟨trivial, trivial, trivial⟩, trivial, trivial⟩, trivial⟩⟩⟩, ?_⟩
  refine Eq.mp (congrArg Q (List.map_congr_left fun x hx => List.map_congr_left fun y hy => ?_)) h
  · simp only [decide_eq_true_eq]
    unfold tE
    by_cases e : x = y
    · subst e
      rw [if_pos rfl, if_pos rfl, if_neg fun q => ?_]
      · rfl
      · have := (ht.2 _ q).2.1
        have e1 : (f__law_tie x x).1 = min x x := rfl
        have e2 : (f__law_tie x x).2 = max x x := rfl
        omega
    · rw [if_neg e, if_neg e]
      show _ = (2 * 0 + if tieL x y ∈ ties then (1:Int) else 0)
      omega

def p__law_sum (n : Int) (ties : List (Int × Int)) (xs : List Int) : Prop := (0 ≤ n ∧ n ≤ 100 ∧ (xs.length : Int) = n ∧ Bd xs) ∧ Tn n ties
def f__law_sum (n : Int) (ties : List (Int × Int)) (xs : List Int) : Int := lsumL n ties xs

abbrev st__law_sum : Stmt := topS 20
theorem sc__law_sum : FnScope ["n", "ties", "numbers", "found", "k", "i", "j"] ["n", "ties", "numbers"] (defScope st__law_sum) := ⟨rfl, rfl, rfl, by decide +kernel, rfl, by decide +kernel, by decide +kernel⟩
def s__law_sum : Int → (List (Int × Int)) → (List Int) → (Int → Prop) → Prop := (fun a_n a_ties a_numbers => Wp (p__law_sum a_n a_ties a_numbers) (f__law_sum a_n a_ties a_numbers))
theorem ok__law_sum (T : Txt K mg) (D : Df K mg "_law_sum" st__law_sum)  : Cl P w K mg base "_law_sum" 1 ["n", "ties", "numbers"] (sp3 s__law_sum) := by
  refine mkCl D (fun _ _ _ _ _ _ us hl => match us, hl with | [_, _, _], _ => rfl) fun f fd F => ?_
  have nd := sc__law_sum.nd
  refine ok3 (ς := Unit) (G := fun _ => []) (k := 0) (N := ["n", "ties", "numbers", "found", "k", "i", "j"]) F sc__law_sum rfl (fun a_n a_ties a_numbers cdv A outer s H E hr =>
      bx_asg (m := .fr) (wx_int (m := .fr)) nd (i := 3) (fun v1_found =>
      bx_for (m1 := .fr) (G1 := fun (v2_s : Int) => [.d .pl (enc (a_n : Int)), .d .pl (enc (a_ties : (List (Int × Int)))), .d .pl (enc (a_numbers : (List Int))), .d .fr (enc (v2_s : Int)), .no, .no, .no]) (v1_found) (pi_r1 (wi_range1 (k := false) (m := .fr) (wx_vn (m := .fr) 0 (a := a_n)) (by rfl) T.b_range)) (pg_name (i := 4) nd rfl (Or.inl rfl)) (wk_d (wk_d (wk_d (wk_d (wk_no (wk_no (wk_no wk_nil))))))) (fun v2_s => ft_name 4) (fun v3_x v2_s =>
      bx_aug ip_add 3 nd (px_op (m := .fr) op_mulW dop_I (px_op (m := .fr) op_mulW dop_I (wx_int (m := .fr)) (WX.nl (m := .fr) (px_ix (m := .pl) ix_list (dop_ix (K := K)) (wx_var (m := .pl) 2 (a := a_numbers)) (WX.nl (m := .pl) (wx_vn (m := .fr) 4 (a := v3_x))) (fun _ _ => rfl)))) (WX.nl (m := .fr) (px_ix (m := .pl) ix_list (dop_ix (K := K)) (wx_var (m := .pl) 2 (a := a_numbers)) (WX.nl (m := .pl) (wx_vn (m := .fr) 4 (a := v3_x))) (fun _ _ => rfl)))) (fun v4_found =>
      bx_nil ((v2_s + v4_found)) (wk_d (wk_d (wk_d (wk_d (wk_no (wk_no (wk_no wk_nil))))))))) (fun v5_s =>
      bx_for (m1 := .pl) (G1 := fun (v6_s : Int) => [.d .pl (enc (a_n : Int)), .d .pl (enc (a_ties : (List (Int × Int)))), .d .pl (enc (a_numbers : (List Int))), .d .fr (enc (v6_s : Int)), .no, .no, .no]) (v5_s) (wi_list (k := false) (m := .pl) (wx_var (m := .pl) 1 (a := a_ties))) (pg_tup rfl (pgs_cons (pg_name (i := 5) nd rfl (Or.inl rfl)) (pgs_cons (pg_name (i := 6) nd rfl (Or.inl rfl)) pgs_nil))) (wk_d (wk_d (wk_d (wk_d (wk_no (wk_no (wk_no wk_nil))))))) (fun v6_s => ft_pair (K := K) 5 6) (fun v7_x v6_s =>
      bx_aug ip_add 3 nd (px_op (m := .fr) op_mulW dop_I (px_op (m := .fr) op_mulW dop_I (wx_int (m := .fr)) (WX.nl (m := .fr) (px_ix (m := .pl) ix_list (dop_ix (K := K)) (wx_var (m := .pl) 2 (a := a_numbers)) (WX.nl (m := .pl) (wx_vn (m := .fr) 5 (a := v7_x.1))) (fun _ _ => rfl)))) (WX.nl (m := .fr) (px_ix (m := .pl) ix_list (dop_ix (K := K)) (wx_var (m := .pl) 2 (a := a_numbers)) (WX.nl (m := .pl) (wx_vn (m := .fr) 6 (a := v7_x.2))) (fun _ _ => rfl)))) (fun v8_found =>
      bx_nil ((v6_s + v8_found)) (wk_d (wk_d (wk_d (wk_d (wk_no (wk_no (wk_no wk_nil))))))))) (fun v9_s =>
      bx_ret (wx_vn (m := .fr) 3 (a := v9_s))) PassesOwn.never) PassesOwn.never)) ?_
  intro n ties xs Q h
  obtain ⟨⟨⟨n0, n1, hl, bd⟩, ht⟩, h⟩ := h
  have cr : cRg 0 n := by unfold cRg; omega
  have two : ((2 : Int)).natAbs < 2 ^ 2 := by decide
  have w1 : ∀ {x y : Int}, cIx xs x → cIx xs y → CMulW 2 (gIx xs x) ∧ CMulW (2 * gIx xs x) (gIx xs y) := fun cx cy =>
    ⟨wide_mul two (bd.at cx) (by decide) (by decide) (by decide), wide_mul (wide_lt two (bd.at cx)) (bd.at cy) (by decide) (by decide) (by decide)⟩
  refine ⟨trivial, ⟨trivial, cr⟩, forW_add _ 0 (fun x hx => ?_) ⟨trivial, forW_add _ _ (fun p hp => ?_) ⟨trivial, ?_⟩⟩⟩
  · have := mem_rng.mp hx
    have c : cIx xs x := by unfold cIx; omega
    exact ⟨⟨trivial, ⟨trivial, trivial, c⟩, (w1 c c).1⟩, ⟨trivial, trivial, c⟩, (w1 c c).2⟩
  · obtain ⟨a, b, d⟩ := ht.2 p hp
    have c1 : cIx xs p.1 := by unfold cIx; omega
    have c2 : cIx xs p.2 := by unfold cIx; omega
    exact ⟨⟨trivial, ⟨trivial, trivial, c1⟩, (w1 c1 c2).1⟩, ⟨trivial, trivial, c2⟩, (w1 c1 c2).2⟩
  · rw [Int.zero_add]
    exact h

def p__law_squares (pairs : List (Int × Int)) (xs : List Int) : Prop := pairs.length ≤ 100 ∧ xs.length = pairs.length ∧ Bd xs
def f__law_squares (pairs : List (Int × Int)) (xs : List Int) : Int := squaresL pairs xs
theorem sum_bd {xs : List Int} : ∀ {b : Nat}, (∀ x ∈ xs, x.natAbs < 2 ^ b) → (xs.sum).natAbs ≤ xs.length * 2 ^ b := by
  induction xs with
  | nil => intro b _; exact Nat.zero_le _
  | cons x xs ih =>
    intro b h
    have h1 := h x (List.mem_cons_self ..)
    have h2 := ih fun y hy => h y (List.mem_cons_of_mem _ hy)
    rw [List.sum_cons, List.length_cons, Nat.succ_mul]
    omega

abbrev st__law_squares : Stmt := topS 21
theorem sc__law_squares : FnScope ["pairs", "numbers", "found", "x", "own", "k"] ["pairs", "numbers"] (defScope st__law_squares) := ⟨rfl, rfl, rfl, by decide +kernel, rfl, by decide +kernel, by decide +kernel⟩
def s__law_squares : (List (Int × Int)) → (List Int) → (Int → Prop) → Prop := (fun a_pairs a_numbers => Wp (p__law_squares a_pairs a_numbers) (f__law_squares a_pairs a_numbers))
theorem ok__law_squares (T : Txt K mg) (D : Df K mg "_law_squares" st__law_squares)  : Cl P w K mg base "_law_squares" 1 ["pairs", "numbers"] (sp2 s__law_squares) := by
  refine mkCl D (fun _ _ _ _ _ _ us hl => match us, hl with | [_, _], _ => rfl) fun f fd F => ?_
  have nd := sc__law_squares.nd
  refine ok2 (ς := Unit) (G := fun _ => []) (k := 0) (N := ["pairs", "numbers", "found", "x", "own", "k"]) F sc__law_squares rfl (fun a_pairs a_numbers cdv A outer s H E hr =>
      bx_asg (m := .fr) (wx_int (m := .fr)) nd (i := 2) (fun v1_found =>
      bx_for (m1 := .fr) (G1 := fun (v2_s : Int) => [.d .pl (enc (a_pairs : (List (Int × Int)))), .d .pl (enc (a_numbers : (List Int))), .d .fr (enc (v2_s : Int)), .no, .no, .no]) (v1_found) (pi_r1 (wi_range1 (k := false) (m := .fr) (wx_int (m := .fr)) (by rfl) T.b_range)) (pg_name (i := 3) nd rfl (Or.inr rfl)) (wk_d (wk_d (wk_d (wk_no (wk_no (wk_no wk_nil)))))) (fun v2_s => ft_name 3) (fun v3_x v2_s =>
      bx_asg (m := .fr) (WX.nl (m := .fr) (px_b1 (m := .any) (cr_sum rfl) (dc_sum (K := K)) (by rfl) T.b_sum (by decide +kernel) (WX.le (m := .any) (WN.wx (pn_lc (m := .fr) rfl nd (blkOk_by (own := [("k", 5)]) (N := ["pairs", "numbers", "found", "x", "own", "k"]) (by change blkC _ (defScope st__law_squares) _ _ = true; decide +kernel)) (pi_r1 (wi_range1 (k := true) (m := .fr) (WX.nl (m := .fr) (px_b1 (m := .any) call_len_seq (dc_len (K := K)) (by rfl) T.b_len (by decide +kernel) (WX.le (m := .any) (wx_var (m := .pl) 0 (a := a_pairs))))) (by rfl) T.b_range)) (ct_name 5) (fun _ _ _ _ _ => pg_name (i := 5) nd rfl (Or.inl rfl)) (fun v4_x _ _ _ _ _ => wts_one (pt_cmp' op_in_seq (dop_inT (K := K)) (WX.nl (m := .any) (wx_vn (m := .fr) 3 (a := v3_x))) (WX.nl (m := .any) (WX.nl (m := .fr) (px_ix (m := .pl) ix_list (dop_ix (K := K)) (wx_var (m := .pl) 0 (a := a_pairs)) (WX.nl (m := .pl) (wx_vn (m := .fr) 5 (a := v4_x))) (fun _ _ => rfl)))) rfl)) (fun v4_x _ _ _ _ _ => (WX.nl (m := .fr) (px_ix (m := .pl) ix_list (dop_ix (K := K)) (wx_var (m := .pl) 1 (a := a_numbers)) (WX.nl (m := .pl) (wx_vn (m := .fr) 5 (a := v4_x))) (fun _ _ => rfl))))))))) nd (i := 4) (fun v5_own =>
      bx_aug ip_add 2 nd (px_op (m := .fr) op_mulW dop_I (wx_vn (m := .fr) 4 (a := v5_own)) (wx_vn (m := .fr) 4 (a := v5_own))) (fun v6_found =>
      bx_nil ((v2_s + v6_found)) (wk_d (wk_d (wk_d (wk_no (wk_no (wk_no wk_nil))))))))) (fun v7_s =>
      bx_ret (wx_vn (m := .fr) 2 (a := v7_s))) PassesOwn.never)) ?_
  intro pairs xs Q h
  obtain ⟨⟨h1, h2, bd⟩, h⟩ := h
  refine ⟨trivial, ⟨trivial, by unfold cRg; omega⟩, ?_⟩
  have key : ∀ x : Int, CMulW (ownL pairs xs x) (ownL pairs xs x) := fun x => by
    have hb := sum_bd (b := 100) (xs := ((rng 0 (pairs.length : Int)).filter fun k => decide (x = (gIx pairs k).1 ∨ x = (gIx pairs k).2)).map fun k => gIx xs k) fun z hz => by
      obtain ⟨k, hk, rfl⟩ := List.mem_map.mp hz
      have := mem_rng.mp (List.mem_filter.mp hk).1
      exact bd.at ⟨this.1, by rw [h2]; exact this.2⟩
    have hl : (((rng 0 (pairs.length : Int)).filter fun k => decide (x = (gIx pairs k).1 ∨ x = (gIx pairs k).2)).map fun k => gIx xs k).length ≤ 100 := by
      rw [List.length_map]
      refine Nat.le_trans (List.length_filter_le ..) ?_
      rw [rng_length]; omega
    have : (ownL pairs xs x).natAbs < 2 ^ 110 := by
      have h100 : (100 : Nat) * 2 ^ 100 < 2 ^ 110 := by decide
      exact Nat.lt_of_le_of_lt (Nat.le_trans hb (Nat.mul_le_mul_right _ hl)) h100
    exact wide_mul this this (by decide) (by decide) (by decide)
  refine forW_cps _ (fun i s => s = (((rng 0 24).take i).map fun x => ownL pairs xs x * ownL pairs xs x).sum) _ rfl ?_ ?_
  · rintro i s x N' hx rfl hN
    refine ⟨⟨⟨⟨⟨trivial, trivial⟩, by unfold cRg; omega⟩, fun k hk => ?_⟩, trivial⟩, ⟨trivial, trivial, key x⟩, hN _ ?_⟩
    · have := mem_rng.mp hk
      have c : cIx pairs k := this
      exact ⟨⟨trivial, ⟨trivial, trivial, c⟩, trivial⟩, fun _ => ⟨trivial, trivial, this.1, by rw [h2]; exact this.2⟩⟩
    · rw [List.take_add_one, hx, List.map_append, List.sum_append]
      show _ + _ = _ + ([_] : List Int).sum
      rw [List.sum_cons, List.sum_nil, Int.add_zero]
      rfl
  · rintro s rfl
    rw [List.take_length]
    exact ⟨trivial, h⟩

def s_numbers : Int → (List Int → Prop) → Prop := fun n Q => (0 ≤ n ∧ n ≤ 100) ∧ ∀ xs, (xs.length : Int) = n → Bd xs → Q xs
theorem ms_numbers : ∀ a, Mono (s_numbers a) := fun a Q Q' k h => ⟨h.1, fun x hx hy => k _ (h.2 x hx hy)⟩

abbrev st__law_numbers : Stmt := topS 22
theorem sc__law_numbers : FnScope ["feed", "n", "kind", "row", "turn", "k"] ["feed", "n"] (defScope st__law_numbers) := ⟨rfl, rfl, rfl, by decide +kernel, rfl, by decide +kernel, by decide +kernel⟩
abbrev s__law_numbers : Int → ((List Int) → Prop) → Prop := s_numbers
theorem ok__law_numbers (T : Txt K mg) (D : Df K mg "_law_numbers" st__law_numbers) (C__law_draw : Cl P w K mg base "_law_draw" 1 ["feed", "many"] (sf1 s__law_draw)) : Cl P w K mg base "_law_numbers" 2 ["feed", "n"] (sf1 s__law_numbers) := by
  refine mkCl D (fun _ _ _ _ _ _ us hl => match us, hl with | [_, _], _ => rfl) fun f fd F => ?_
  have nd := sc__law_numbers.nd
  refine okF1 (ς := Unit) (G := fun _ => []) (k := 1) (N := ["feed", "n", "kind", "row", "turn", "k"]) F sc__law_numbers rfl (fun a_n cdv A outer s H Fd E hr =>
      bx_asg (m := .fr) (wx_d1 (m := .fr) C__law_draw hr ms_draw (wx_int : WX _ _ _ .fr _ _) 0) nd (i := 2) (fun v1_kind =>
      bx_if (G1 := fun (v2_s : Unit) => [.fd, .d .pl (enc (a_n : Int)), .d .fr (enc (v1_kind : Int)), .no, .no, .no]) (pt_cmp' (op_eqD (Room.units hr)) (dop_eq (K := K)) (WX.nl (m := .any) (wx_vn (m := .fr) 2 (a := v1_kind))) (wx_int (m := .any)) (nomark _)) (
      bx_ret (WN.wx (pn_rep (m := .fr) (WN.wx (wn_lst (m := .fr) (pl_cons (wx_int (m := .fr)) (wl_nil (α := Int))))) (wx_vn (m := .fr) 1 (a := a_n))))) (
      bx_nil () (wk_fd (wk_d (wk_d (wk_no (wk_no (wk_no wk_nil))))))) (fun v2_s =>
      bx_if (G1 := fun (v3_s : Unit) => [.fd, .d .pl (enc (a_n : Int)), .d .fr (enc (v1_kind : Int)), .no, .no, .no]) (pt_cmp' (op_eqD (Room.units hr)) (dop_eq (K := K)) (WX.nl (m := .any) (wx_vn (m := .fr) 2 (a := v1_kind))) (wx_int (m := .any)) (nomark _)) (
      bx_own (m := .fr) (pn_rep (m := .fr) (WN.wx (wn_lst (m := .fr) (pl_cons (wx_int (m := .fr)) (wl_nil (α := Int))))) (wx_vn (m := .fr) 1 (a := a_n))) nd (i := 3) (fun v4_row =>
      bx_for (m1 := .fr) (G1 := fun (v5_s : (List Int)) => [.fd, .d .pl (enc (a_n : Int)), .d .fr (enc (v1_kind : Int)), .own .fr (List.map enc (v5_s : (List Int))), .no, .no]) (v4_row) (pi_r1 (wi_range1 (k := false) (m := .fr) (px_b2 (m := .fr) (call_min2 rfl) dc_min2 (by rfl) T.b_min (by decide +kernel) (wx_vn (m := .fr) 1 (a := a_n)) (wx_int (m := .fr))) (by rfl) T.b_range)) (pg_name (i := 4) nd rfl (Or.inl rfl)) (wk_fd (wk_d (wk_d (wk_own (wk_no (wk_no wk_nil)))))) (fun v5_s => ft_name 4) (fun v6_x v5_s =>
      bx_sub 3 (xs := v5_s) (wx_op (m := .fr) op_sub dop_I0 (wx_int (m := .fr)) (wx_op (m := .fr) op_mul dop_I (wx_int (m := .fr)) (wx_d1 (m := .fr) C__law_draw hr ms_draw (wx_int : WX _ _ _ .fr _ _) 0))) (wx_d1 (m := .fr) C__law_draw hr ms_draw (wx_vn (m := .fr) 1 (a := a_n)) 0) (fun v7_row v8_k =>
      bx_nil ((List.set v5_s (Int.toNat v8_k) v7_row)) (wk_fd (wk_d (wk_d (wk_own (wk_no (wk_no wk_nil)))))))) (fun v9_s =>
      bx_wk (Γ' := [.fd, .d .pl (enc (a_n : Int)), .d .fr (enc (v1_kind : Int)), .d .fr (enc (v9_s : (List Int))), .no, .no]) (wk_fd (wk_d (wk_d (wk_fz (wk_no (wk_no wk_nil)))))) (
      bx_ret (wx_var (m := .fr) 3 (a := v9_s)))) PassesOwn.never)) (
      bx_nil () (wk_fd (wk_d (wk_d (wk_no (wk_no (wk_no wk_nil))))))) (fun v3_s =>
      bx_if (G1 := fun (v10_s : Unit) => [.fd, .d .pl (enc (a_n : Int)), .d .fr (enc (v1_kind : Int)), .no, .no, .no]) (pt_cmp' (op_eqD (Room.units hr)) (dop_eq (K := K)) (WX.nl (m := .any) (wx_vn (m := .fr) 2 (a := v1_kind))) (wx_int (m := .any)) (nomark _)) (
      bx_ret (WN.wx (wn_lc (m := .fr) rfl nd (blkOk_by (own := [("k", 5)]) (N := ["feed", "n", "kind", "row", "turn", "k"]) (by change blkC _ (defScope st__law_numbers) _ _ = true; decide +kernel)) (pi_r1 (wi_range1 (k := true) (m := .fr) (wx_vn (m := .fr) 1 (a := a_n)) (by rfl) T.b_range)) (ct_name 5) (fun _ _ _ _ _ => pg_name (i := 5) nd rfl (Or.inl rfl)) (fun v11_x _ _ _ _ _ => wts_nil) (fun v11_x _ _ _ _ _ => (wx_op (m := .fr) op_add dop_I0 (wx_op (m := .fr) op_mul dop_I (wx_op (m := .fr) op_sub dop_I0 (wx_d1 (m := .fr) C__law_draw hr ms_draw (wx_int : WX _ _ _ .fr _ _) 0) (wx_int (m := .fr))) (px_op (m := .fr) op_pow dop_I (wx_int (m := .fr)) (wx_int (m := .fr)))) (wx_d1 (m := .fr) C__law_draw hr ms_draw (wx_int : WX _ _ _ .fr _ _) 0)))))) (
      bx_nil () (wk_fd (wk_d (wk_d (wk_no (wk_no (wk_no wk_nil))))))) (fun v10_s =>
      bx_ret (WN.wx (wn_lc (m := .fr) rfl nd (blkOk_by (own := [("k", 5)]) (N := ["feed", "n", "kind", "row", "turn", "k"]) (by change blkC _ (defScope st__law_numbers) _ _ = true; decide +kernel)) (pi_r1 (wi_range1 (k := true) (m := .fr) (wx_vn (m := .fr) 1 (a := a_n)) (by rfl) T.b_range)) (ct_name 5) (fun _ _ _ _ _ => pg_name (i := 5) nd rfl (Or.inl rfl)) (fun v12_x _ _ _ _ _ => wts_nil) (fun v12_x _ _ _ _ _ => (wx_op (m := .fr) op_sub dop_I0 (wx_d1 (m := .fr) C__law_draw hr ms_draw (wx_int : WX _ _ _ .fr _ _) 0) (wx_int (m := .fr))))))))))) ?_
  intro n Q h
  obtain ⟨⟨h0, h1⟩, h⟩ := h
  have hz : ∀ {k : Nat}, Bd (List.replicate k 0) := fun {k} x hx => by rw [List.eq_of_mem_replicate hx]; decide
  have hf : ([0] : List Int).flatMap (fun x => List.replicate n.toNat x) = List.replicate n.toNat 0 := by simp
  refine ⟨trivial, ⟨by decide, by decide⟩, fun a a0 a1 => ⟨⟨trivial, trivial, trivial⟩, ite_ (fun _ => ?_) fun _ => ⟨⟨trivial, trivial, trivial⟩, ite_ (fun _ => ?_) fun _ => ⟨⟨trivial, trivial, trivial⟩, ite_ (fun _ => ?_) fun _ => ?_⟩⟩⟩⟩
  · refine ⟨⟨⟨trivial, trivial⟩, trivial, rfl, by omega, by omega⟩, ?_⟩
    rw [hf]
    exact h _ (by rw [List.length_replicate]; omega) hz
  · refine ⟨⟨⟨trivial, trivial⟩, trivial, rfl, by omega, by omega⟩, ⟨⟨trivial, trivial, trivial⟩, by unfold cRg; omega⟩, ?_⟩
    rw [hf]
    refine forW_cps _ (fun i s => (s.length : Int) = n ∧ Bd s) _ ⟨by rw [List.length_replicate]; omega, hz⟩ ?_ ?_
    · rintro i s x N' hx ⟨e, hb⟩ hN
      have := mem_rng.mp (List.mem_of_getElem? hx)
      refine ⟨trivial, trivial, trivial, ⟨by decide, by decide⟩, fun b b0 b1 => ⟨.inl ⟨by decide, by decide⟩, trivial, trivial, ⟨by omega, by omega⟩, fun k k0 k1 => ⟨⟨k0, by rw [e]; exact k1⟩, hN _ ⟨by rw [List.length_set]; exact e, fun z hz => ?_⟩⟩⟩⟩
      rcases List.mem_or_eq_of_mem_set hz with hz | rfl
      · exact hb z hz
      · have : (1 - 2 * b).natAbs < 16 := by omega
        exact Nat.lt_trans this (by decide)
    · rintro s ⟨e, hb⟩
      exact ⟨trivial, h _ e hb⟩
  · refine ⟨⟨trivial, by unfold cRg; omega⟩, ?_⟩
    refine lcW_all _ (fun i ys => ys.length = i ∧ Bd ys) [] ⟨rfl, fun _ h => nomatch h⟩ ?_ ?_
    · rintro i x ys N hx ⟨e, hb⟩ hN
      refine ⟨trivial, ⟨by decide, by decide⟩, fun b b0 b1 => ⟨trivial, trivial, ⟨trivial, trivial, ⟨by decide, by decide, by decide⟩⟩, .inl ⟨by omega, by omega⟩, trivial, ⟨by decide, by decide⟩, fun d d0 d1 => ⟨trivial, hN _ ⟨by simp [e], fun z hz => ?_⟩⟩⟩⟩
      rcases List.mem_append.mp hz with hz | hz
      · exact hb z hz
      · rw [List.mem_singleton.mp hz]
        have e22 : (10 : Int) ^ Int.toNat 22 = 10000000000000000000000 := by decide
        rw [e22]
        have e100 : (2 : Nat) ^ 100 = 1267650600228229401496703205376 := by decide
        rw [e100]
        omega
    · rintro ys ⟨e, hb⟩
      rw [rng_length] at e
      exact h _ (by omega) hb
  · refine ⟨⟨trivial, by unfold cRg; omega⟩, ?_⟩
    refine lcW_all _ (fun i ys => ys.length = i ∧ Bd ys) [] ⟨rfl, fun _ h => nomatch h⟩ ?_ ?_
    · rintro i x ys N hx ⟨e, hb⟩ hN
      refine ⟨trivial, ⟨by decide, by decide⟩, fun b b0 b1 => ⟨trivial, trivial, hN _ ⟨by simp [e], fun z hz => ?_⟩⟩⟩
      rcases List.mem_append.mp hz with hz | hz
      · exact hb z hz
      · rw [List.mem_singleton.mp hz]
        have : (b - 3).natAbs < 16 := by omega
        exact Nat.lt_trans this (by decide)
    · rintro ys ⟨e, hb⟩
      rw [rng_length] at e
      exact h _ (by omega) hb

def s_root : (List (Int × Int) → Prop) → Prop := fun Q => ∀ t, Tn 24 t → t.length ≤ 8 → Q t
theorem ms_root : Mono s_root := fun Q Q' k h x hx hy => k _ (h x hx hy)

abbrev st__law_root : Stmt := topS 23
theorem sc__law_root : FnScope ["feed", "places", "pairs", "by", "i", "j"] ["feed"] (defScope st__law_root) := ⟨rfl, rfl, rfl, by decide +kernel, rfl, by decide +kernel, by decide +kernel⟩
abbrev s__law_root : ((List (Int × Int)) → Prop) → Prop := s_root
theorem ok__law_root (T : Txt K mg) (D : Df K mg "_law_root" st__law_root) (C__law_draw : Cl P w K mg base "_law_draw" 1 ["feed", "many"] (sf1 s__law_draw)) (C__law_many : Cl P w K mg base "_law_many" 2 ["feed", "n", "m"] (sf2 s__law_many)) : Cl P w K mg base "_law_root" 3 ["feed"] (sf0 s__law_root) := by
  refine mkCl D (fun _ _ _ _ _ _ us hl => match us, hl with | [_], _ => rfl) fun f fd F => ?_
  have nd := sc__law_root.nd
  refine okF0 (ς := Unit) (G := fun _ => []) (k := 2) (N := ["feed", "places", "pairs", "by", "i", "j"]) F sc__law_root rfl (fun  cdv A outer s H Fd E hr =>
      bx_asg (m := .fr) (wx_op (m := .fr) op_add dop_I0 (wx_int (m := .fr)) (wx_d1 (m := .fr) C__law_draw hr ms_draw (wx_int : WX _ _ _ .fr _ _) 0)) nd (i := 1) (fun v1_places =>
      bx_asg (m := .fr) (wx_d2 (m := .fr) C__law_many hr ms_many (wx_vn (m := .fr) 1 (a := v1_places)) (wx_op (m := .fr) op_add dop_I0 (wx_int (m := .fr)) (wx_d1 (m := .fr) C__law_draw hr ms_draw (wx_int : WX _ _ _ .fr _ _) 0)) 0) nd (i := 2) (fun v2_pairs =>
      bx_asg (m := .fr) (wx_d1 (m := .fr) C__law_draw hr ms_draw (px_op0 (m := .fr) op_sub dop_I0 (wx_int (m := .fr)) (wx_vn (m := .fr) 1 (a := v1_places))) 0) nd (i := 3) (fun v3_by =>
      bx_ret (WN.wx (pn_lc0 (m := .fr) rfl nd (blkOk_by (own := [("i", 4), ("j", 5)]) (N := ["feed", "places", "pairs", "by", "i", "j"]) (by change blkC _ (defScope st__law_root) _ _ = true; decide +kernel)) (wi_listA (m := .fr) (wx_var (m := .fr) 2 (a := v2_pairs))) (ct_pair (K := K) 4 5) (fun _ _ _ _ _ => pg_tup rfl (pgs_cons (pg_name (i := 4) nd rfl (Or.inl rfl)) (pgs_cons (pg_name (i := 5) nd rfl (Or.inl rfl)) pgs_nil))) (fun v4_x _ _ _ _ _ => (px_pair (m := .fr) (px_op0 (m := .fr) op_add dop_I0 (wx_vn (m := .fr) 4 (a := v4_x.1)) (wx_vn (m := .fr) 3 (a := v3_by))) (px_op0 (m := .fr) op_add dop_I0 (wx_vn (m := .fr) 5 (a := v4_x.2)) (wx_vn (m := .fr) 3 (a := v3_by))))))))))) ?_
  intro Q h
  refine ⟨trivial, trivial, ⟨by decide, by decide⟩, fun a a0 a1 => ⟨trivial, trivial, trivial, trivial, ⟨by decide, by decide⟩, fun b b0 b1 => ⟨trivial, ⟨by omega, by omega, by omega, by omega⟩, fun t ht hl => ⟨⟨trivial, trivial⟩, ⟨by omega, by omega⟩, fun d d0 d1 => ⟨⟨trivial, fun _ _ => ⟨⟨trivial, trivial⟩, trivial, trivial⟩⟩, ?_⟩⟩⟩⟩⟩
  refine h _ ⟨nodup_map ht.1.1 fun p _ q _ e => ?_, fun p hp => ?_⟩ (by rw [List.length_map]; omega)
  · have e1 := congrArg Prod.fst e
    have e2 := congrArg Prod.snd e
    simp only at e1 e2
    exact Prod.ext (by omega) (by omega)
  · obtain ⟨q, hq, rfl⟩ := List.mem_map.mp hp
    have := ht.1.2 q hq
    show 0 ≤ q.1 + d ∧ q.1 + d < q.2 + d ∧ q.2 + d < 24
    omega

def p__law_asked (n : Int) (ties : List (Int × Int)) (xs : List Int) : Prop := (0 ≤ n ∧ n ≤ 100 ∧ (xs.length : Int) = n ∧ Bd xs) ∧ Tn n ties
def f__law_asked (n : Int) (ties : List (Int × Int)) (xs : List Int) : Bool := true

abbrev st__law_asked : Stmt := topS 24
theorem sc__law_asked : FnScope ["n", "ties", "numbers", "handed", "row", "table", "line", "told", "x"] ["n", "ties", "numbers"] (defScope st__law_asked) := ⟨rfl, rfl, rfl, by decide +kernel, rfl, by decide +kernel, by decide +kernel⟩
def s__law_asked : Int → (List (Int × Int)) → (List Int) → (Bool → Prop) → Prop := (fun a_n a_ties a_numbers => Wp (p__law_asked a_n a_ties a_numbers) (f__law_asked a_n a_ties a_numbers))
theorem ok__law_asked (T : Txt K mg) (D : Df K mg "_law_asked" st__law_asked) (C_square_numbers : Cl P w K mg base "square_numbers" 4 ["n", "ties"] (sp2 s_square_numbers)) (C__law_table : Cl P w K mg base "_law_table" 2 ["n", "ties"] (sp2 s__law_table)) (C__law_is_whole : Cl P w K mg base "_law_is_whole" 1 ["x"] (sp1 s__law_is_whole)) (C_least_sum : Cl P w K mg base "least_sum" 5 ["n", "ties", "numbers"] (sp3 s_least_sum)) (C__law_sum : Cl P w K mg base "_law_sum" 1 ["n", "ties", "numbers"] (sp3 s__law_sum)) : Cl P w K mg base "_law_asked" 6 ["n", "ties", "numbers"] (sp3 s__law_asked) := by
  refine mkCl D (fun _ _ _ _ _ _ us hl => match us, hl with | [_, _, _], _ => rfl) fun f fd F => ?_
  have nd := sc__law_asked.nd
  refine ok3 (ς := Unit) (G := fun _ => []) (k := 5) (N := ["n", "ties", "numbers", "handed", "row", "table", "line", "told", "x"]) F sc__law_asked rfl (fun a_n a_ties a_numbers cdv A outer s H E hr =>
      bx_asg (m := .fr) (WN.wx (wn_up (m := .fr) (pn_imp1 (wn_ty1 (m := .pl) call_list_of (dn_list (K := K)) (by rfl) T.b_list (by decide +kernel) (wx_var (m := .pl) 1 (a := a_ties)))))) nd (i := 3) (fun v1_handed =>
      bx_asg (m := .fr) (WN.wx (wn_up (m := .fr) (pn_imp1 (wn_ty1 (m := .pl) call_list_of (dn_list (K := K)) (by rfl) T.b_list (by decide +kernel) (wx_var (m := .pl) 2 (a := a_numbers)))))) nd (i := 4) (fun v2_row =>
      bx_fr (pr_c2 C_square_numbers hr (wx_vn (m := .fr) 0 (a := a_n)) (wx_var (m := .fr) 3 (a := v1_handed))) nd (i := 5) (fun v3_table =>
      bx_if (G1 := fun (v4_s : Unit) => [.d .pl (enc (a_n : Int)), .d .pl (enc (a_ties : (List (Int × Int)))), .d .pl (enc (a_numbers : (List Int))), .d .fr (enc (v1_handed : (List (Int × Int)))), .d .fr (enc (v2_row : (List Int))), .frs (enc (v3_table : (List (List Int)))), .no, .no, .no]) (WTw.t (ptw_or (pt_not' (wt_val (WX.nl (m := .any) (px_isi (m := .fr) (t := "list") (cn := "list") (b := true) T.b_isinstance T.b_list (fun a => isiT_L a) (by decide +kernel) (by decide +kernel) rfl (wx_frs 5 (a := v3_table)))))) (ptw_or (pt_cmp' (op_neD (Room.units hr)) (dop_ne (K := K)) (wx_frs 5 (a := v3_table)) (WX.le (m := .any) (px_c2 (m := .fr) C__law_table hr (wx_vn (m := .fr) 0 (a := a_n)) (wx_var (m := .pl) 1 (a := a_ties)))) (nomark _)) (wt_or1 (pt_cmp' (op_neD (Room.units hr)) (dop_ne (K := K)) (WX.le (m := .any) (wx_var (m := .fr) 3 (a := v1_handed))) (WX.le (m := .any) (wx_var (m := .pl) 1 (a := a_ties))) (nomark _)))))) (
      bx_ret (wx_bl (m := .fr))) (
      bx_nil () (wk_d (wk_d (wk_d (wk_d (wk_d (wk_frs (wk_no (wk_no (wk_no wk_nil)))))))))) (fun v4_s =>
      bx_forIf (m1 := .pl) (Γ' := [.d .pl (enc (a_n : Int)), .d .pl (enc (a_ties : (List (Int × Int)))), .d .pl (enc (a_numbers : (List Int))), .d .fr (enc (v1_handed : (List (Int × Int)))), .d .fr (enc (v2_row : (List Int))), .d .pl (enc (v3_table : (List (List Int)))), .no, .no, .no]) (wk_d (wk_d (wk_d (wk_d (wk_d (wk_bw (wk_no (wk_no (wk_no wk_nil))))))))) (wi_list (k := true) (m := .pl) (wx_var (m := .pl) 5 (a := v3_table))) (pg_name (i := 6) nd rfl (Or.inl rfl)) (kt_name 6) (fun v5_x => (WTw.t (ptw_or (pt_not' (wt_val (WX.nl (m := .any) (px_isi (m := .fr) (t := "list") (cn := "list") (b := true) T.b_isinstance T.b_list (fun a => isiT_L a) (by decide +kernel) (by decide +kernel) rfl (WX.le (m := .any) (wx_var (m := .pl) 6 (a := v5_x))))))) (wt_or1 (pt_cmp' op_gt dop_B0 (WX.nl (m := .any) (WX.nl (m := .fr) (px_b1 (m := .any) call_len_seq (dc_len (K := K)) (by rfl) T.b_len (by decide +kernel) (WX.le (m := .any) (WN.wx (pn_lcf (m := .fr) rfl nd (blkOk_by (own := [("x", 8)]) (N := ["n", "ties", "numbers", "handed", "row", "table", "line", "told", "x"]) (by change blkC _ (defScope st__law_asked) _ _ = true; decide +kernel)) (wi_listA (m := .fr) (wx_var (m := .pl) 6 (a := v5_x))) (ct_name 8) (fun _ _ _ _ _ => pg_name (i := 8) nd rfl (Or.inl rfl)) (fun v6_x _ _ _ _ _ => wts_one (pt_not' (wt_val (WX.nl (m := .any) (px_c1 (m := .fr) C__law_is_whole hr (wx_vn (m := .fr) 8 (a := v6_x))))))) (fun v6_x _ _ _ _ _ => (wx_vn (m := .fr) 8 (a := v6_x))))))))) (wx_int (m := .any)) (nomark _)))))) (fun v5_x => (wx_bl (m := .fr))) (
      bx_pokeEach 5 6 (xs := v3_table) (ps_for PassesOwn.never rfl (pi_list (pv 5)) (pg_name (i := 6) nd rfl (Or.inl rfl)) (pss_one (ps_expr (pe_bm PySem.F.plainAttrs_list PySem.F.slot_list_append PySem.F.type_list_append mt_append (pv 6) (pa_cons pe_int pa_nil))))) (
      bx_asg (m := .fr) (px_c3 (m := .fr) C_least_sum hr (wx_vn (m := .fr) 0 (a := a_n)) (wx_var (m := .fr) 3 (a := v1_handed)) (wx_var (m := .fr) 4 (a := v2_row))) nd (i := 7) (fun v7_told =>
      bx_if (G1 := fun (v8_s : Unit) => [.d .pl (enc (a_n : Int)), .d .pl (enc (a_ties : (List (Int × Int)))), .d .pl (enc (a_numbers : (List Int))), .d .fr (enc (v1_handed : (List (Int × Int)))), .d .fr (enc (v2_row : (List Int))), .no, .no, .d .fr (enc (v7_told : Int)), .no]) (WTw.t (ptw_or (pt_not' (wt_val (WX.nl (m := .any) (px_c1 (m := .fr) C__law_is_whole hr (wx_vn (m := .fr) 7 (a := v7_told)))))) (ptw_or (pt_cmp' (op_neD (Room.units hr)) (dop_ne (K := K)) (WX.nl (m := .any) (wx_vn (m := .fr) 7 (a := v7_told))) (WX.nl (m := .any) (px_c3 (m := .fr) C__law_sum hr (wx_vn (m := .fr) 0 (a := a_n)) (wx_var (m := .pl) 1 (a := a_ties)) (wx_var (m := .pl) 2 (a := a_numbers)))) (nomark _)) (ptw_or (pt_cmp' (op_neD (Room.units hr)) (dop_ne (K := K)) (WX.le (m := .any) (wx_var (m := .fr) 3 (a := v1_handed))) (WX.le (m := .any) (wx_var (m := .pl) 1 (a := a_ties))) (nomark _)) (wt_or1 (pt_cmp' (op_neD (Room.units hr)) (dop_ne (K := K)) (WX.le (m := .any) (wx_var (m := .fr) 4 (a := v2_row))) (WX.le (m := .any) (wx_var (m := .pl) 2 (a := a_numbers))) (nomark _))))))) (
      bx_ret (wx_bl (m := .fr))) (
      bx_nil () (wk_d (wk_d (wk_d (wk_d (wk_d (wk_no (wk_no (wk_d (wk_no wk_nil)))))))))) (fun v8_s =>
      bx_ret ((px_cmp (m := .fr) (op_eqD (Room.units hr)) (dop_eq (K := K)) (WX.le (m := .any) (px_c2 (m := .fr) C_square_numbers hr (wx_vn (m := .fr) 0 (a := a_n)) (wx_var (m := .fr) 3 (a := v1_handed)))) (WX.le (m := .any) (px_c2 (m := .fr) C__law_table hr (wx_vn (m := .fr) 0 (a := a_n)) (wx_var (m := .pl) 1 (a := a_ties)))) (nomark _))))))) PassesOwn.never))))) ?_
  intro n ties xs Q h
  obtain ⟨⟨⟨n0, n1, hl, bd⟩, ht⟩, h⟩ := h
  have hs := sizeLine_eq
  have h : Q true := h
  have et : ∀ a : List (List Int), a = f_square_numbers n ties → (!true || (!decide (a = f__law_table n ties) || !decide (ties = ties))) = false := fun a e => by
    rw [e]; simp [f_square_numbers, f__law_table]
  have el : f_least_sum n ties xs = f__law_sum n ties xs := least_eq xs ht
  refine ⟨trivial, trivial, ⟨trivial, trivial, n0, by omega⟩, ⟨trivial, fun _ => ⟨⟨trivial, ⟨trivial, trivial, ⟨n0, by omega⟩, ht⟩, trivial⟩, fun _ => ⟨trivial, trivial, trivial⟩⟩⟩, ?_⟩
  rw [et _ rfl]
  refine ⟨trivial, ?_⟩
  refine forIf_p _ (fun row hrow => ⟨trivial, fun _ => ⟨⟨⟨trivial, fun _ _ => ⟨trivial, trivial⟩⟩, trivial⟩, trivial, trivial⟩⟩) (fun row hrow e => ?_) fun _ => ⟨fun ys hys => ?_, ?_⟩
  · exact absurd e (by simp [f__law_is_whole])
  · have e1 : ys.length = n.toNat := tab_row hys
    have e2 : (f_square_numbers n ties).length = n.toNat := tab_len n ties
    omega
  · refine ⟨⟨trivial, trivial, trivial, n0, n1, hl, bd⟩, ⟨⟨trivial, trivial⟩, fun _ => ⟨⟨trivial, ⟨trivial, trivial, trivial, ⟨n0, n1, hl, bd⟩, ht⟩, trivial⟩, fun _ => ⟨⟨trivial, trivial, trivial⟩, fun _ => ⟨trivial, trivial, trivial⟩⟩⟩⟩, ?_⟩
    rw [el, show (!f__law_is_whole (f__law_sum n ties xs) || (!decide (f__law_sum n ties xs = f__law_sum n ties xs) || (!decide (ties = ties) || !decide (xs = xs)))) = false by simp [f__law_is_whole]]
    refine ⟨⟨⟨trivial, trivial, n0, by omega⟩, ⟨trivial, trivial, ⟨n0, by omega⟩, ht⟩, trivial⟩, ?_⟩
    rw [show decide (f_square_numbers n ties = f__law_table n ties) = true from decide_eq_true rfl]
    exact h

abbrev st_law : Stmt := topS 25
theorem sc_law : FnScope ["script", "feed", "turn", "ends", "names", "star", "numbers", "pairs", "n", "order", "ties", "shared", "k", "one", "other", "x"] ["script"] (defScope st_law) := ⟨rfl, rfl, rfl, by decide +kernel, rfl, by decide +kernel, by decide +kernel⟩
theorem ok_law {f : Addr} {fd : FuncData} (T : Txt K mg) (F : Fun K "law" "law" st_law f fd) (C__law_feed : Cl P w K mg base "_law_feed" 1 ["script"] (spFeed K)) (C__law_root : Cl P w K mg base "_law_root" 3 ["feed"] (sf0 s__law_root)) (C__law_names : Cl P w K mg base "_law_names" 2 ["feed", "n"] (sf1 s__law_names)) (C__law_joinings : Cl P w K mg base "_law_joinings" 2 ["pairs"] (sp1 s__law_joinings)) (C__law_numbers : Cl P w K mg base "_law_numbers" 2 ["feed", "n"] (sf1 s__law_numbers)) (C__law_asked : Cl P w K mg base "_law_asked" 6 ["n", "ties", "numbers"] (sp3 s__law_asked)) (C_least_sum : Cl P w K mg base "least_sum" 5 ["n", "ties", "numbers"] (sp3 s_least_sum)) (C__law_squares : Cl P w K mg base "_law_squares" 1 ["pairs", "numbers"] (sp2 s__law_squares)) (C_square_numbers : Cl P w K mg base "square_numbers" 4 ["n", "ties"] (sp2 s_square_numbers)) (C__law_draw : Cl P w K mg base "_law_draw" 1 ["feed", "many"] (sf1 s__law_draw)) (C__law_shape : Cl P w K mg base "_law_shape" 3 ["feed", "n", "most"] (sf2 s__law_shape)) (C__law_renamed : Cl P w K mg base "_law_renamed" 2 ["ties", "names"] (sp2 s__law_renamed)) : FnOk P w K mg base CX0 7 f fd ["script"] (spLaw K) := by
  have nd := sc_law.nd
  refine F.ok sc_law (fun vs H Q E ⟨a, ns, e, _⟩ => by rw [e]; rfl) fun cdv A outer s H vs Q E hr ⟨a, ns, e, hs, hl, q⟩ => ?_
  subst e
  obtain ⟨ff, fdf, q1, q2, q3, q4⟩ := C__law_feed
  refine lawEnd (N' := ["turn", "ends", "names", "star", "numbers", "pairs", "n", "order", "ties", "shared", "k", "one", "other", "x"]) (ps_set (i := 1) nd rfl (Or.inl rfl) (pe_call (q4.mono (by decide)) hr (by rfl) q1 q2 q3 .nil pass0 (pa_cons (pv 0) pa_nil))) (fun Hb Fd =>
      bx_for (m1 := .fr) (G1 := fun (v1_s : Unit) => [.no, .fd, .no, .no, .no, .no, .no, .no, .no, .no, .no, .no, .no, .no, .no, .no]) () (pi_r1 (wi_range1 (k := false) (m := .fr) (wx_int (m := .fr)) (by rfl) T.b_range)) (pg_name (i := 2) nd rfl (Or.inl rfl)) (wk_no (wk_fd (wk_no (wk_no (wk_no (wk_no (wk_no (wk_no (wk_no (wk_no (wk_no (wk_no (wk_no (wk_no (wk_no (wk_no wk_nil)))))))))))))))) (fun v1_s => ft_name 2) (fun v2_x v1_s =>
      bx_asg (m := .fr) (wx_d0 (m := .fr) C__law_root hr ms_root  1) nd (i := 7) (fun v3_pairs =>
      bx_asg (m := .fr) (WX.nl (m := .fr) (px_b1 (m := .any) call_len_seq (dc_len (K := K)) (by rfl) T.b_len (by decide +kernel) (WX.le (m := .any) (wx_var (m := .fr) 7 (a := v3_pairs))))) nd (i := 8) (fun v4_n =>
      bx_asg (m := .fr) (wx_d1 (m := .fr) C__law_names hr ms_names (wx_vn (m := .fr) 8 (a := v4_n)) 1) nd (i := 9) (fun v5_order =>
      bx_asg (m := .fr) (WN.wx (pn_lc0 (m := .fr) rfl nd (blkOk_by (own := [("k", 12)]) (N := ["script", "feed", "turn", "ends", "names", "star", "numbers", "pairs", "n", "order", "ties", "shared", "k", "one", "other", "x"]) (by change blkC _ (defScope st_law) _ _ = true; decide +kernel)) (wi_listA (m := .fr) (wx_var (m := .fr) 9 (a := v5_order))) (ct_name 12) (fun _ _ _ _ _ => pg_name (i := 12) nd rfl (Or.inl rfl)) (fun v6_x _ _ _ _ _ => (px_ix (m := .fr) ix_list (dop_ix (K := K)) (wx_var (m := .fr) 7 (a := v3_pairs)) (wx_vn (m := .fr) 12 (a := v6_x)) (fun _ _ => rfl))))) nd (i := 7) (fun v7_pairs =>
      bx_asg (m := .fr) (px_c1 (m := .fr) C__law_joinings hr (wx_var (m := .fr) 7 (a := v7_pairs))) nd (i := 10) (fun v8_ties =>
      bx_own (m := .fr) (WR.wn (m := .fr) (wr_d1 C__law_numbers hr ms_numbers (wx_vn (m := .fr) 8 (a := v4_n)) 1)) nd (i := 6) (fun v9_numbers =>
      bx_if (G1 := fun (v10_s : Unit) => [.no, .fd, .d .fr (enc (v2_x : Int)), .no, .no, .no, .own .fr (List.map enc (v9_numbers : (List Int))), .d .fr (enc (v7_pairs : (List (Int × Int)))), .d .fr (enc (v4_n : Int)), .d .fr (enc (v5_order : (List Int))), .d .fr (enc (v8_ties : (List (Int × Int)))), .no, .no, .no, .no, .no]) (WTw.t (ptw_or (pt_not' (wt_val (WX.nl (m := .any) (px_c3 (m := .fr) C__law_asked hr (wx_vn (m := .fr) 8 (a := v4_n)) (wx_var (m := .fr) 10 (a := v8_ties)) (wx_own 6 (a := v9_numbers)))))) (wt_or1 (pt_cmp' (op_neD (Room.units hr)) (dop_ne (K := K)) (WX.nl (m := .any) (px_c3 (m := .fr) C_least_sum hr (wx_vn (m := .fr) 8 (a := v4_n)) (wx_var (m := .fr) 10 (a := v8_ties)) (wx_own 6 (a := v9_numbers)))) (WX.nl (m := .any) (px_c2 (m := .fr) C__law_squares hr (wx_var (m := .fr) 7 (a := v7_pairs)) (wx_own 6 (a := v9_numbers)))) (nomark _))))) (
      bx_ret (wx_bl (m := .fr))) (
      bx_nil () (wk_no (wk_fd (wk_d (wk_no (wk_no (wk_no (wk_own (wk_d (wk_d (wk_d (wk_d (wk_no (wk_no (wk_no (wk_no (wk_no wk_nil))))))))))))))))) (fun v10_s =>
      bx_set (α := (List (List Int))) (m := .fr) (AS.d (as_lcP0 (m := .fr) (i := 11) rfl nd rfl rfl (sw_true rfl rfl rfl (by decide +kernel)) (blkOk_by (own := [("one", 13)]) (N := ["script", "feed", "turn", "ends", "names", "star", "numbers", "pairs", "n", "order", "ties", "shared", "k", "one", "other", "x"]) (by change blkC _ (defScope st_law) _ _ = true; decide +kernel)) (wi_listA (m := .fr) (wx_var (m := .fr) 7 (a := v7_pairs))) (ct_name 13) (fun _ _ _ _ _ => pg_name (i := 13) nd rfl (Or.inr rfl)) (fun v11_x _ _ _ _ _ => (WN.wx (pn_lc0 (m := .fr) rfl nd (blkOk_bk (own := [("other", 14)]) (N := ["script", "feed", "turn", "ends", "names", "star", "numbers", "pairs", "n", "order", "ties", "shared", "k", "one", "other", "x"]) (by decide +kernel)) (wi_listA (m := .fr) (wx_var (m := .fr) 7 (a := v7_pairs))) (ct_name 14) (fun _ _ _ _ _ => pg_name (i := 14) nd rfl (Or.inr rfl)) (fun v12_x _ _ _ _ _ => (WX.nl (m := .fr) (px_b1 (m := .any) call_len_seq (dc_len (K := K)) (by rfl) T.b_len (by decide +kernel) (WX.le (m := .any) (WN.wx (pn_lcf (m := .fr) rfl nd (blkOk_bk (own := [("x", 15)]) (N := ["script", "feed", "turn", "ends", "names", "star", "numbers", "pairs", "n", "order", "ties", "shared", "k", "one", "other", "x"]) (by decide +kernel)) (pi_imp1 (wi_two (k := true) (m := .fr) (wx_vn (m := .fr) 13 (a := v11_x)))) (ct_name 15) (fun _ _ _ _ _ => pg_name (i := 15) nd rfl (Or.inl rfl)) (fun v13_x _ _ _ _ _ => wts_one (pt_cmp' op_in_seq (dop_inT (K := K)) (WX.nl (m := .any) (wx_vn (m := .fr) 15 (a := v13_x))) (WX.nl (m := .any) (wx_vn (m := .fr) 14 (a := v12_x))) rfl)) (fun v13_x _ _ _ _ _ => (wx_vn (m := .fr) 15 (a := v13_x))))))))))))) mono_wp) mono_wp (fun v14_shared =>
      bx_if (G1 := fun (v15_s : Unit) => [.no, .fd, .d .fr (enc (v2_x : Int)), .no, .no, .no, .own .fr (List.map enc (v9_numbers : (List Int))), .d .fr (enc (v7_pairs : (List (Int × Int)))), .d .fr (enc (v4_n : Int)), .d .fr (enc (v5_order : (List Int))), .d .fr (enc (v8_ties : (List (Int × Int)))), .d .fr (enc (v14_shared : (List (List Int)))), .no, .no, .no, .no]) (WTw.t (ptw_or (pt_cmp' (op_neD (Room.units hr)) (dop_ne (K := K)) (WX.le (m := .any) (px_c2 (m := .fr) C_square_numbers hr (wx_vn (m := .fr) 8 (a := v4_n)) (wx_var (m := .fr) 10 (a := v8_ties)))) (WX.le (m := .any) (wx_var (m := .fr) 11 (a := v14_shared))) (nomark _)) (wt_or1 (pt_cmp' op_lt dop_B0 (WX.nl (m := .any) (px_c3 (m := .fr) C_least_sum hr (wx_vn (m := .fr) 8 (a := v4_n)) (wx_var (m := .fr) 10 (a := v8_ties)) (wx_own 6 (a := v9_numbers)))) (wx_int (m := .any)) (nomark _))))) (
      bx_ret (wx_bl (m := .fr))) (
      bx_nil () (wk_no (wk_fd (wk_d (wk_no (wk_no (wk_no (wk_own (wk_d (wk_d (wk_d (wk_d (wk_d (wk_no (wk_no (wk_no (wk_no wk_nil))))))))))))))))) (fun v15_s =>
      bx_asg (m := .fr) (wx_d1 (m := .fr) C__law_draw hr ms_draw (wx_int : WX _ _ _ .fr _ _) 1) nd (i := 8) (fun v16_n =>
      bx_if (G1 := fun (v17_s : Int) => [.no, .fd, .d .fr (enc (v2_x : Int)), .no, .no, .no, .own .fr (List.map enc (v9_numbers : (List Int))), .d .fr (enc (v7_pairs : (List (Int × Int)))), .d .fr (enc (v17_s : Int)), .d .fr (enc (v5_order : (List Int))), .d .fr (enc (v8_ties : (List (Int × Int)))), .d .fr (enc (v14_shared : (List (List Int)))), .no, .no, .no, .no]) (wt_cmp (op_eqD (Room.units hr)) (dop_eq (K := K)) (WX.nl (m := .any) (wx_d1 (m := .fr) C__law_draw hr ms_draw (wx_int : WX _ _ _ .fr _ _) 1)) (wx_int (m := .any)) (nomark _)) (
      bx_asg (m := .fr) (wx_int (m := .fr)) nd (i := 8) (fun v18_n =>
      bx_nil (v18_n) (wk_no (wk_fd (wk_d (wk_no (wk_no (wk_no (wk_own (wk_d (wk_d (wk_d (wk_d (wk_d (wk_no (wk_no (wk_no (wk_no wk_nil)))))))))))))))))) (
      bx_nil (v16_n) (wk_no (wk_fd (wk_d (wk_no (wk_no (wk_no (wk_own (wk_d (wk_d (wk_d (wk_d (wk_d (wk_no (wk_no (wk_no (wk_no wk_nil))))))))))))))))) (fun v17_s =>
      bx_if (G1 := fun (v19_s : Unit) => [.no, .fd, .d .fr (enc (v2_x : Int)), .no, .no, .no, .own .fr (List.map enc (v9_numbers : (List Int))), .d .fr (enc (v7_pairs : (List (Int × Int)))), .d .fr (enc (v17_s : Int)), .d .fr (enc (v5_order : (List Int))), .d .fr (enc (v8_ties : (List (Int × Int)))), .d .fr (enc (v14_shared : (List (List Int)))), .no, .no, .no, .no]) (wt_not (wt_val (WX.nl (m := .any) (wx_c3 (m := .fr) C__law_asked hr (fun _ _ _ => mono_wp) (wx_vn (m := .fr) 8 (a := v17_s)) (wx_d2 (m := .fr) C__law_shape hr ms_shape (wx_vn (m := .fr) 8 (a := v17_s)) (wx_int : WX _ _ _ .fr _ _) 1) (wx_d1 (m := .fr) C__law_numbers hr ms_numbers (wx_vn (m := .fr) 8 (a := v17_s)) 1))))) (
      bx_ret (wx_bl (m := .fr))) (
      bx_nil () (wk_no (wk_fd (wk_d (wk_no (wk_no (wk_no (wk_own (wk_d (wk_d (wk_d (wk_d (wk_d (wk_no (wk_no (wk_no (wk_no wk_nil))))))))))))))))) (fun v19_s =>
      bx_nil () (wk_no (wk_fd (wk_no (wk_no (wk_no (wk_no (wk_no (wk_no (wk_no (wk_no (wk_no (wk_no (wk_no (wk_no (wk_no (wk_no wk_nil))))))))))))))))))))))))))))) (fun v20_s =>
      bx_asg (m := .fr) (wx_op (m := .fr) op_add dop_I0 (wx_int (m := .fr)) (wx_d1 (m := .fr) C__law_draw hr ms_draw (wx_int : WX _ _ _ .fr _ _) 1)) nd (i := 3) (fun v21_ends =>
      bx_asg (m := .fr) (wx_d1 (m := .fr) C__law_names hr ms_names (px_op0 (m := .fr) op_add dop_I0 (wx_vn (m := .fr) 3 (a := v21_ends)) (wx_int (m := .fr))) 1) nd (i := 4) (fun v22_names =>
      bx_asg (m := .fr) (px_c2 (m := .fr) C__law_renamed hr (WN.wx (pn_lc0 (m := .fr) rfl nd (blkOk_by (own := [("k", 12)]) (N := ["script", "feed", "turn", "ends", "names", "star", "numbers", "pairs", "n", "order", "ties", "shared", "k", "one", "other", "x"]) (by change blkC _ (defScope st_law) _ _ = true; decide +kernel)) (pi_r1 (wi_range1 (k := true) (m := .fr) (wx_vn (m := .fr) 3 (a := v21_ends)) (by rfl) T.b_range)) (ct_name 12) (fun _ _ _ _ _ => pg_name (i := 12) nd rfl (Or.inl rfl)) (fun v23_x _ _ _ _ _ => (px_pair (m := .fr) (wx_int (m := .fr)) (px_op0 (m := .fr) op_add dop_I0 (wx_vn (m := .fr) 12 (a := v23_x)) (wx_int (m := .fr))))))) (wx_var (m := .fr) 4 (a := v22_names))) nd (i := 5) (fun v24_star =>
      bx_own (m := .fr) (pn_rep (m := .fr) (WN.wx (wn_lst (m := .fr) (pl_cons (px_un (m := .fr) un_neg dun_I (wx_int (m := .fr))) (wl_nil (α := Int))))) (px_op0 (m := .fr) op_add dop_I0 (wx_vn (m := .fr) 3 (a := v21_ends)) (wx_int (m := .fr)))) nd (i := 6) (fun v25_numbers =>
      bx_sub 6 (xs := v25_numbers) (wx_int (m := .fr)) (px_ix (m := .fr) ix_list (dop_ix (K := K)) (wx_var (m := .fr) 4 (a := v22_names)) (wx_int (m := .fr)) (fun _ _ => rfl)) (fun v26_numbers v27_k =>
      bx_if (G1 := fun (v28_s : Unit) => [.no, .fd, .no, .d .fr (enc (v21_ends : Int)), .d .fr (enc (v22_names : (List Int))), .d .fr (enc (v24_star : (List (Int × Int)))), .own .fr (List.map enc ((List.set v25_numbers (Int.toNat v27_k) v26_numbers) : (List Int))), .no, .no, .no, .no, .no, .no, .no, .no, .no]) (WTw.t (ptw_or (pt_not' (wt_val (WX.nl (m := .any) (px_c3 (m := .fr) C__law_asked hr (px_op0 (m := .fr) op_add dop_I0 (wx_vn (m := .fr) 3 (a := v21_ends)) (wx_int (m := .fr))) (wx_var (m := .fr) 5 (a := v24_star)) (wx_own 6 (a := (List.set v25_numbers (Int.toNat v27_k) v26_numbers))))))) (wt_or1 (pt_cmp' (op_neD (Room.units hr)) (dop_ne (K := K)) (WX.nl (m := .any) (px_c3 (m := .fr) C_least_sum hr (px_op0 (m := .fr) op_add dop_I0 (wx_vn (m := .fr) 3 (a := v21_ends)) (wx_int (m := .fr))) (wx_var (m := .fr) 5 (a := v24_star)) (wx_own 6 (a := (List.set v25_numbers (Int.toNat v27_k) v26_numbers))))) (WX.nl (m := .any) (px_op0 (m := .fr) op_sub dop_I0 (wx_int (m := .fr)) (px_op (m := .fr) op_mul dop_I (wx_int (m := .fr)) (wx_vn (m := .fr) 3 (a := v21_ends))))) (nomark _))))) (
      bx_ret (wx_bl (m := .fr))) (
      bx_nil () (wk_no (wk_fd (wk_no (wk_d (wk_d (wk_d (wk_own (wk_no (wk_no (wk_no (wk_no (wk_no (wk_no (wk_no (wk_no (wk_no wk_nil))))))))))))))))) (fun v28_s =>
      bx_ret ((px_and (m := .fr) (WX.nl (m := .any) ((px_cmp (m := .fr) (op_eqD (Room.units hr)) (dop_eq (K := K)) (WX.nl (m := .any) (px_c3 (m := .fr) C_least_sum hr (wx_int : WX _ _ _ .fr _ _) (WN.wx (wn_lst (m := .fr) (wl_nil (α := (Int × Int))))) (WN.wx (wn_lst (m := .fr) (wl_nil (α := Int)))))) (wx_int (m := .any)) (nomark _)))) (px_and (m := .any) (WX.nl (m := .any) ((px_cmp (m := .fr) (op_eqD (Room.units hr)) (dop_eq (K := K)) (WX.le (m := .any) (px_c2 (m := .fr) C_square_numbers hr (wx_int : WX _ _ _ .fr _ _) (WN.wx (wn_lst (m := .fr) (wl_nil (α := (Int × Int))))))) (WX.le (m := .any) (WN.wx (wn_lst (m := .fr) (wl_nil (α := (List Int)))))) (nomark _)))) (wx_one (WX.nl (m := .any) ((px_cmp (m := .fr) (op_eqD (Room.units hr)) (dop_eq (K := K)) (WX.nl (m := .any) (px_c3 (m := .fr) C_least_sum hr (wx_int : WX _ _ _ .fr _ _) (WN.wx (wn_lst (m := .fr) (pl_cons (px_pair (m := .fr) (wx_int (m := .fr)) (wx_int (m := .fr))) (pl_cons (px_pair (m := .fr) (wx_int (m := .fr)) (wx_int (m := .fr))) (pl_cons (px_pair (m := .fr) (wx_int (m := .fr)) (wx_int (m := .fr))) (pl_cons (px_pair (m := .fr) (wx_int (m := .fr)) (wx_int (m := .fr))) (wl_nil (α := (Int × Int))))))))) (WN.wx (wn_lst (m := .fr) (pl_cons (wx_int (m := .fr)) (pl_cons (px_un (m := .fr) un_neg dun_I (wx_int (m := .fr))) (pl_cons (px_un (m := .fr) un_neg dun_I (wx_int (m := .fr))) (pl_cons (px_un (m := .fr) un_neg dun_I (wx_int (m := .fr))) (pl_cons (px_un (m := .fr) un_neg dun_I (wx_int (m := .fr))) (wl_nil (α := Int))))))))))) (wx_int (m := .any)) (nomark _))))))))))))))) PassesOwn.never) hs hl q ?_
  have hsz := sizeLine_eq
  refine ⟨⟨trivial, by unfold cRg; omega⟩, forW_cps _ (fun _ _ => True) _ trivial ?_ ?_⟩
  · rintro i s x N' hx _ hN
    refine fun t ht hl => ⟨⟨trivial, trivial⟩, trivial, ⟨by omega, by omega⟩, fun names hnm => ⟨⟨trivial, fun k hk => ⟨trivial, trivial, mem_rng.mp (hnm.subset hk)⟩⟩, ?_⟩⟩
    have hp : (names.map (gIx t)).Perm t := by
      have := hnm.map (gIx t)
      rwa [map_gIx] at this
    have hpt : Tn 24 (names.map (gIx t)) := ht.perm hp
    have hpl : (names.map (gIx t)).length = t.length := hp.length_eq
    show Wp _ (f__law_joinings (names.map (gIx t))) _
    generalize names.map (gIx t) = pairs at hpt hpl ⊢
    rw [← hpl]
    refine ⟨⟨trivial, by show pairs.length ≤ 1000; omega⟩, trivial, ⟨by omega, by omega⟩, fun xs xl bd => ?_⟩
    have pa : p__law_asked (pairs.length : Int) (f__law_joinings pairs) xs := ⟨⟨by omega, by omega, xl, bd⟩, joinL_tn pairs⟩
    have pl : p_least_sum (pairs.length : Int) (f__law_joinings pairs) xs := ⟨by omega, by omega, xl, bd⟩
    have el : f_least_sum (pairs.length : Int) (f__law_joinings pairs) xs = f__law_squares pairs xs := least_squares hpt xs
    have es : f_square_numbers (pairs.length : Int) (f__law_joinings pairs) = _ := shared_tab hpt
    have nn : ¬ f_least_sum (pairs.length : Int) (f__law_joinings pairs) xs < 0 := by rw [el]; exact Int.not_lt.mpr (squares_nn pairs xs)
    refine ⟨⟨⟨trivial, trivial, trivial, pa⟩, fun _ => ⟨⟨trivial, trivial, trivial, pl⟩, ⟨trivial, trivial, by omega, by omega, bd⟩, trivial⟩⟩, ?_⟩
    rw [show (!f__law_asked (pairs.length : Int) (f__law_joinings pairs) xs || !decide (f_least_sum (pairs.length : Int) (f__law_joinings pairs) xs = f__law_squares pairs xs)) = false by rw [decide_eq_true el]; rfl]
    refine ⟨⟨trivial, fun _ _ => ⟨trivial, fun _ _ => ⟨⟨trivial, fun _ _ => ⟨trivial, trivial, trivial⟩⟩, trivial⟩⟩⟩, ⟨⟨⟨trivial, trivial, by omega, by omega⟩, trivial, trivial⟩, fun _ => ⟨⟨trivial, trivial, trivial, pl⟩, trivial, trivial⟩⟩, ?_⟩
    rw [decide_eq_true es, decide_eq_false nn]
    refine ⟨trivial, ⟨by decide, by decide⟩, fun a a0 a1 => ⟨trivial, ⟨by decide, by decide⟩, fun b b0 b1 => ⟨trivial, trivial, ?_⟩⟩⟩
    have tail : ∀ n : Int, 0 ≤ n → n ≤ 12 → Wp True n fun a0 => Wp True n fun a1 => Wp True 40 fun a2 => s_shape a1 a2 fun t => Wp True n fun a3 => s_numbers a3 fun xs => Wp (p__law_asked a0 t xs) (!f__law_asked a0 t xs) fun t => if t = true then Wp True false fun r => r = true else N' () := fun n n0 n1 =>
      ⟨trivial, trivial, trivial, ⟨n0, by omega, by decide⟩, fun t ht _ => ⟨trivial, ⟨n0, by omega⟩, fun xs xl bd => ⟨⟨⟨n0, by omega, xl, bd⟩, ht.1⟩, hN () trivial⟩⟩⟩
    refine ite_ (fun _ => ⟨trivial, ?_⟩) fun _ => ?_
    · exact tail 12 (by decide) (by decide)
    · exact tail a a0 (by omega)
  · rintro s _
    refine ⟨trivial, trivial, ⟨by decide, by decide⟩, fun b b0 b1 => ⟨trivial, ?_⟩⟩
    have c0 : 5 ≤ 5 + b := by omega
    have c1 : 5 + b < 12 := by omega
    generalize 5 + b = e at c0 c1 ⊢
    refine ⟨⟨trivial, trivial⟩, ⟨by omega, by omega⟩, fun names hnm => ?_⟩
    have ht := star0_tn e
    have g0 := hnm.get (i := 0) (by omega) (by omega)
    have hrep : (([-1] : List Int).flatMap fun x => List.replicate (e + 1).toNat x) = List.replicate (e + 1).toNat (-1) := by simp
    have ln : ((numL e names).length : Int) = e + 1 := by unfold numL; rw [List.length_set, List.length_replicate]; omega
    have bd : Bd (numL e names) := fun x hx => by
      rcases List.mem_or_eq_of_mem_set hx with hx | rfl
      · rw [List.eq_of_mem_replicate hx]; decide
      · decide
    have pa : p__law_asked (e + 1) (starL e names) (numL e names) := ⟨⟨by omega, by omega, ln, bd⟩, (renL_web ht hnm).1⟩
    have pl : p_least_sum (e + 1) (starL e names) (numL e names) := ⟨by omega, by omega, ln, bd⟩
    have es : f_least_sum (e + 1) (starL e names) (numL e names) = 8 - 2 * e := star_sum (by omega) hnm
    refine ⟨⟨⟨⟨trivial, by unfold cRg; omega⟩, fun _ _ => ⟨trivial, trivial, trivial⟩⟩, trivial, fun p hp => ?_⟩, ⟨⟨⟨trivial, trivial⟩, trivial⟩, ⟨trivial, trivial⟩, rfl, by omega, by omega⟩, trivial, ⟨trivial, trivial, hnm.ix (by omega) (by omega)⟩, ?_⟩
    · obtain ⟨q0, q1, q2⟩ := ht.2 p hp
      exact ⟨hnm.ix q0 (by omega), hnm.ix (by omega) q2⟩
    rw [hrep]
    refine ⟨⟨g0.1, by rw [List.length_replicate]; omega⟩, ⟨⟨⟨trivial, trivial⟩, trivial, trivial, pa⟩, fun _ => ⟨⟨⟨trivial, trivial⟩, trivial, trivial, pl⟩, ⟨trivial, trivial, trivial, .inl ⟨by decide, by decide⟩⟩, trivial⟩⟩, ?_⟩
    show (if (!f__law_asked (e + 1) (starL e names) (numL e names) || !decide (f_least_sum (e + 1) (starL e names) (numL e names) = 8 - 2 * e)) = true then _ else _)
    rw [decide_eq_true es]
    have p0 : p_least_sum 0 [] [] := ⟨by decide, by decide, rfl, fun _ h => nomatch h⟩
    have p5 : p_least_sum 5 [(0, 1), (0, 2), (0, 3), (0, 4)] [2, -1, -1, -1, -1] := ⟨by decide, by decide, rfl, by unfold Bd; decide⟩
    refine ⟨⟨⟨⟨trivial, trivial, trivial, p0⟩, trivial, trivial⟩, fun _ => ⟨⟨⟨trivial, trivial, by decide, by decide⟩, trivial, trivial⟩, fun _ => ⟨⟨trivial, ⟨⟨trivial, trivial⟩, ⟨trivial, trivial⟩, ⟨trivial, trivial⟩, ⟨trivial, trivial⟩, trivial⟩, ⟨trivial, ⟨trivial, trivial⟩, ⟨trivial, trivial⟩, ⟨trivial, trivial⟩, ⟨trivial, trivial⟩, trivial⟩, p5⟩, trivial, trivial⟩⟩⟩, ?_⟩
    decide

theorem all_mk {l : PySem.W.OpenLaw} {w : World} {K : PySem.W.Frag} {h : Heap} {mg : Str → Option Value} {fa : Addr} (X : K.In h) (G : h.Ns mainGlobals mg) (hfa : mg "law" = some (.ref fa))
    {f_tie_of f_are_joined f_square_number f_square_numbers f_least_sum f_law_feed f_law_draw f_law_is_whole f_law_pairs f_law_meet f_law_joinings f_law_names f_law_tie f_law_renamed f_law_many f_law_shape f_law_table f_law_sum f_law_squares f_law_numbers f_law_root f_law_asked f_law : Addr} {od_tie_of an_tie_of od_are_joined an_are_joined od_square_number an_square_number od_square_numbers an_square_numbers od_least_sum an_least_sum od_law_feed an_law_feed od_law_draw an_law_draw od_law_is_whole an_law_is_whole od_law_pairs an_law_pairs od_law_meet an_law_meet od_law_joinings an_law_joinings od_law_names an_law_names od_law_tie an_law_tie od_law_renamed an_law_renamed od_law_many an_law_many od_law_shape an_law_shape od_law_table an_law_table od_law_sum an_law_sum od_law_squares an_law_squares od_law_numbers an_law_numbers od_law_root an_law_root od_law_asked an_law_asked od_law an_law : Option Addr} {sl_tie_of sl_are_joined sl_square_number sl_square_numbers sl_least_sum sl_law_feed sl_law_draw sl_law_is_whole sl_law_pairs sl_law_meet sl_law_joinings sl_law_names sl_law_tie sl_law_renamed sl_law_many sl_law_shape sl_law_table sl_law_sum sl_law_squares sl_law_numbers sl_law_root sl_law_asked sl_law : Array (Option Value)} {oc_tie_of kV_tie_of dc_tie_of pm_tie_of cd_tie_of ct_tie_of oc_are_joined kV_are_joined dc_are_joined pm_are_joined cd_are_joined ct_are_joined oc_square_number kV_square_number dc_square_number pm_square_number cd_square_number ct_square_number oc_square_numbers kV_square_numbers dc_square_numbers pm_square_numbers cd_square_numbers ct_square_numbers oc_least_sum kV_least_sum dc_least_sum pm_least_sum cd_least_sum ct_least_sum oc_law_feed kV_law_feed dc_law_feed pm_law_feed cd_law_feed ct_law_feed oc_law_draw kV_law_draw dc_law_draw pm_law_draw cd_law_draw ct_law_draw oc_law_is_whole kV_law_is_whole dc_law_is_whole pm_law_is_whole cd_law_is_whole ct_law_is_whole oc_law_pairs kV_law_pairs dc_law_pairs pm_law_pairs cd_law_pairs ct_law_pairs oc_law_meet kV_law_meet dc_law_meet pm_law_meet cd_law_meet ct_law_meet oc_law_joinings kV_law_joinings dc_law_joinings pm_law_joinings cd_law_joinings ct_law_joinings oc_law_names kV_law_names dc_law_names pm_law_names cd_law_names ct_law_names oc_law_tie kV_law_tie dc_law_tie pm_law_tie cd_law_tie ct_law_tie oc_law_renamed kV_law_renamed dc_law_renamed pm_law_renamed cd_law_renamed ct_law_renamed oc_law_many kV_law_many dc_law_many pm_law_many cd_law_many ct_law_many oc_law_shape kV_law_shape dc_law_shape pm_law_shape cd_law_shape ct_law_shape oc_law_table kV_law_table dc_law_table pm_law_table cd_law_table ct_law_table oc_law_sum kV_law_sum dc_law_sum pm_law_sum cd_law_sum ct_law_sum oc_law_squares kV_law_squares dc_law_squares pm_law_squares cd_law_squares ct_law_squares oc_law_numbers kV_law_numbers dc_law_numbers pm_law_numbers cd_law_numbers ct_law_numbers oc_law_root kV_law_root dc_law_root pm_law_root cd_law_root ct_law_root oc_law_asked kV_law_asked dc_law_asked pm_law_asked cd_law_asked ct_law_asked oc_law kV_law dc_law pm_law cd_law ct_law : Value}
    (a_tie_of : PySem.W.nsIn K mainGlobals "tie_of" = some (some (.ref f_tie_of)))
    (l_tie_of : K.lookup f_tie_of = some ⟨oc_tie_of, od_tie_of, .func (PySem.W.fnOf "tie_of" "tie_of" (defArgs st_tie_of) (defBody st_tie_of) (defScope st_tie_of) .none kV_tie_of dc_tie_of pm_tie_of an_tie_of cd_tie_of ct_tie_of), sl_tie_of⟩)
    (c_tie_of : PySem.W.codeIn K cd_tie_of "tie_of" = true)
    (k_tie_of : PySem.W.keepIn K (.ref f_tie_of) = true)
    (a_are_joined : PySem.W.nsIn K mainGlobals "are_joined" = some (some (.ref f_are_joined)))
    (l_are_joined : K.lookup f_are_joined = some ⟨oc_are_joined, od_are_joined, .func (PySem.W.fnOf "are_joined" "are_joined" (defArgs st_are_joined) (defBody st_are_joined) (defScope st_are_joined) .none kV_are_joined dc_are_joined pm_are_joined an_are_joined cd_are_joined ct_are_joined), sl_are_joined⟩)
    (c_are_joined : PySem.W.codeIn K cd_are_joined "are_joined" = true)
    (k_are_joined : PySem.W.keepIn K (.ref f_are_joined) = true)
    (a_square_number : PySem.W.nsIn K mainGlobals "square_number" = some (some (.ref f_square_number)))
    (l_square_number : K.lookup f_square_number = some ⟨oc_square_number, od_square_number, .func (PySem.W.fnOf "square_number" "square_number" (defArgs st_square_number) (defBody st_square_number) (defScope st_square_number) .none kV_square_number dc_square_number pm_square_number an_square_number cd_square_number ct_square_number), sl_square_number⟩)
    (c_square_number : PySem.W.codeIn K cd_square_number "square_number" = true)
    (k_square_number : PySem.W.keepIn K (.ref f_square_number) = true)
    (a_square_numbers : PySem.W.nsIn K mainGlobals "square_numbers" = some (some (.ref f_square_numbers)))
    (l_square_numbers : K.lookup f_square_numbers = some ⟨oc_square_numbers, od_square_numbers, .func (PySem.W.fnOf "square_numbers" "square_numbers" (defArgs st_square_numbers) (defBody st_square_numbers) (defScope st_square_numbers) .none kV_square_numbers dc_square_numbers pm_square_numbers an_square_numbers cd_square_numbers ct_square_numbers), sl_square_numbers⟩)
    (c_square_numbers : PySem.W.codeIn K cd_square_numbers "square_numbers" = true)
    (k_square_numbers : PySem.W.keepIn K (.ref f_square_numbers) = true)
    (a_least_sum : PySem.W.nsIn K mainGlobals "least_sum" = some (some (.ref f_least_sum)))
    (l_least_sum : K.lookup f_least_sum = some ⟨oc_least_sum, od_least_sum, .func (PySem.W.fnOf "least_sum" "least_sum" (defArgs st_least_sum) (defBody st_least_sum) (defScope st_least_sum) .none kV_least_sum dc_least_sum pm_least_sum an_least_sum cd_least_sum ct_least_sum), sl_least_sum⟩)
    (c_least_sum : PySem.W.codeIn K cd_least_sum "least_sum" = true)
    (k_least_sum : PySem.W.keepIn K (.ref f_least_sum) = true)
    (a_law_feed : PySem.W.nsIn K mainGlobals "_law_feed" = some (some (.ref f_law_feed)))
    (l_law_feed : K.lookup f_law_feed = some ⟨oc_law_feed, od_law_feed, .func (PySem.W.fnOf "_law_feed" "_law_feed" (defArgs st__law_feed) (defBody st__law_feed) (defScope st__law_feed) .none kV_law_feed dc_law_feed pm_law_feed an_law_feed cd_law_feed ct_law_feed), sl_law_feed⟩)
    (c_law_feed : PySem.W.codeIn K cd_law_feed "_law_feed" = true)
    (k_law_feed : PySem.W.keepIn K (.ref f_law_feed) = true)
    (a_law_draw : PySem.W.nsIn K mainGlobals "_law_draw" = some (some (.ref f_law_draw)))
    (l_law_draw : K.lookup f_law_draw = some ⟨oc_law_draw, od_law_draw, .func (PySem.W.fnOf "_law_draw" "_law_draw" (defArgs st__law_draw) (defBody st__law_draw) (defScope st__law_draw) .none kV_law_draw dc_law_draw pm_law_draw an_law_draw cd_law_draw ct_law_draw), sl_law_draw⟩)
    (c_law_draw : PySem.W.codeIn K cd_law_draw "_law_draw" = true)
    (k_law_draw : PySem.W.keepIn K (.ref f_law_draw) = true)
    (a_law_is_whole : PySem.W.nsIn K mainGlobals "_law_is_whole" = some (some (.ref f_law_is_whole)))
    (l_law_is_whole : K.lookup f_law_is_whole = some ⟨oc_law_is_whole, od_law_is_whole, .func (PySem.W.fnOf "_law_is_whole" "_law_is_whole" (defArgs st__law_is_whole) (defBody st__law_is_whole) (defScope st__law_is_whole) .none kV_law_is_whole dc_law_is_whole pm_law_is_whole an_law_is_whole cd_law_is_whole ct_law_is_whole), sl_law_is_whole⟩)
    (c_law_is_whole : PySem.W.codeIn K cd_law_is_whole "_law_is_whole" = true)
    (k_law_is_whole : PySem.W.keepIn K (.ref f_law_is_whole) = true)
    (a_law_pairs : PySem.W.nsIn K mainGlobals "_law_pairs" = some (some (.ref f_law_pairs)))
    (l_law_pairs : K.lookup f_law_pairs = some ⟨oc_law_pairs, od_law_pairs, .func (PySem.W.fnOf "_law_pairs" "_law_pairs" (defArgs st__law_pairs) (defBody st__law_pairs) (defScope st__law_pairs) .none kV_law_pairs dc_law_pairs pm_law_pairs an_law_pairs cd_law_pairs ct_law_pairs), sl_law_pairs⟩)
    (c_law_pairs : PySem.W.codeIn K cd_law_pairs "_law_pairs" = true)
    (k_law_pairs : PySem.W.keepIn K (.ref f_law_pairs) = true)
    (a_law_meet : PySem.W.nsIn K mainGlobals "_law_meet" = some (some (.ref f_law_meet)))
    (l_law_meet : K.lookup f_law_meet = some ⟨oc_law_meet, od_law_meet, .func (PySem.W.fnOf "_law_meet" "_law_meet" (defArgs st__law_meet) (defBody st__law_meet) (defScope st__law_meet) .none kV_law_meet dc_law_meet pm_law_meet an_law_meet cd_law_meet ct_law_meet), sl_law_meet⟩)
    (c_law_meet : PySem.W.codeIn K cd_law_meet "_law_meet" = true)
    (k_law_meet : PySem.W.keepIn K (.ref f_law_meet) = true)
    (a_law_joinings : PySem.W.nsIn K mainGlobals "_law_joinings" = some (some (.ref f_law_joinings)))
    (l_law_joinings : K.lookup f_law_joinings = some ⟨oc_law_joinings, od_law_joinings, .func (PySem.W.fnOf "_law_joinings" "_law_joinings" (defArgs st__law_joinings) (defBody st__law_joinings) (defScope st__law_joinings) .none kV_law_joinings dc_law_joinings pm_law_joinings an_law_joinings cd_law_joinings ct_law_joinings), sl_law_joinings⟩)
    (c_law_joinings : PySem.W.codeIn K cd_law_joinings "_law_joinings" = true)
    (k_law_joinings : PySem.W.keepIn K (.ref f_law_joinings) = true)
    (a_law_names : PySem.W.nsIn K mainGlobals "_law_names" = some (some (.ref f_law_names)))
    (l_law_names : K.lookup f_law_names = some ⟨oc_law_names, od_law_names, .func (PySem.W.fnOf "_law_names" "_law_names" (defArgs st__law_names) (defBody st__law_names) (defScope st__law_names) .none kV_law_names dc_law_names pm_law_names an_law_names cd_law_names ct_law_names), sl_law_names⟩)
    (c_law_names : PySem.W.codeIn K cd_law_names "_law_names" = true)
    (k_law_names : PySem.W.keepIn K (.ref f_law_names) = true)
    (a_law_tie : PySem.W.nsIn K mainGlobals "_law_tie" = some (some (.ref f_law_tie)))
    (l_law_tie : K.lookup f_law_tie = some ⟨oc_law_tie, od_law_tie, .func (PySem.W.fnOf "_law_tie" "_law_tie" (defArgs st__law_tie) (defBody st__law_tie) (defScope st__law_tie) .none kV_law_tie dc_law_tie pm_law_tie an_law_tie cd_law_tie ct_law_tie), sl_law_tie⟩)
    (c_law_tie : PySem.W.codeIn K cd_law_tie "_law_tie" = true)
    (k_law_tie : PySem.W.keepIn K (.ref f_law_tie) = true)
    (a_law_renamed : PySem.W.nsIn K mainGlobals "_law_renamed" = some (some (.ref f_law_renamed)))
    (l_law_renamed : K.lookup f_law_renamed = some ⟨oc_law_renamed, od_law_renamed, .func (PySem.W.fnOf "_law_renamed" "_law_renamed" (defArgs st__law_renamed) (defBody st__law_renamed) (defScope st__law_renamed) .none kV_law_renamed dc_law_renamed pm_law_renamed an_law_renamed cd_law_renamed ct_law_renamed), sl_law_renamed⟩)
    (c_law_renamed : PySem.W.codeIn K cd_law_renamed "_law_renamed" = true)
    (k_law_renamed : PySem.W.keepIn K (.ref f_law_renamed) = true)
    (a_law_many : PySem.W.nsIn K mainGlobals "_law_many" = some (some (.ref f_law_many)))
    (l_law_many : K.lookup f_law_many = some ⟨oc_law_many, od_law_many, .func (PySem.W.fnOf "_law_many" "_law_many" (defArgs st__law_many) (defBody st__law_many) (defScope st__law_many) .none kV_law_many dc_law_many pm_law_many an_law_many cd_law_many ct_law_many), sl_law_many⟩)
    (c_law_many : PySem.W.codeIn K cd_law_many "_law_many" = true)
    (k_law_many : PySem.W.keepIn K (.ref f_law_many) = true)
    (a_law_shape : PySem.W.nsIn K mainGlobals "_law_shape" = some (some (.ref f_law_shape)))
    (l_law_shape : K.lookup f_law_shape = some ⟨oc_law_shape, od_law_shape, .func (PySem.W.fnOf "_law_shape" "_law_shape" (defArgs st__law_shape) (defBody st__law_shape) (defScope st__law_shape) .none kV_law_shape dc_law_shape pm_law_shape an_law_shape cd_law_shape ct_law_shape), sl_law_shape⟩)
    (c_law_shape : PySem.W.codeIn K cd_law_shape "_law_shape" = true)
    (k_law_shape : PySem.W.keepIn K (.ref f_law_shape) = true)
    (a_law_table : PySem.W.nsIn K mainGlobals "_law_table" = some (some (.ref f_law_table)))
    (l_law_table : K.lookup f_law_table = some ⟨oc_law_table, od_law_table, .func (PySem.W.fnOf "_law_table" "_law_table" (defArgs st__law_table) (defBody st__law_table) (defScope st__law_table) .none kV_law_table dc_law_table pm_law_table an_law_table cd_law_table ct_law_table), sl_law_table⟩)
    (c_law_table : PySem.W.codeIn K cd_law_table "_law_table" = true)
    (k_law_table : PySem.W.keepIn K (.ref f_law_table) = true)
    (a_law_sum : PySem.W.nsIn K mainGlobals "_law_sum" = some (some (.ref f_law_sum)))
    (l_law_sum : K.lookup f_law_sum = some ⟨oc_law_sum, od_law_sum, .func (PySem.W.fnOf "_law_sum" "_law_sum" (defArgs st__law_sum) (defBody st__law_sum) (defScope st__law_sum) .none kV_law_sum dc_law_sum pm_law_sum an_law_sum cd_law_sum ct_law_sum), sl_law_sum⟩)
    (c_law_sum : PySem.W.codeIn K cd_law_sum "_law_sum" = true)
    (k_law_sum : PySem.W.keepIn K (.ref f_law_sum) = true)
    (a_law_squares : PySem.W.nsIn K mainGlobals "_law_squares" = some (some (.ref f_law_squares)))
    (l_law_squares : K.lookup f_law_squares = some ⟨oc_law_squares, od_law_squares, .func (PySem.W.fnOf "_law_squares" "_law_squares" (defArgs st__law_squares) (defBody st__law_squares) (defScope st__law_squares) .none kV_law_squares dc_law_squares pm_law_squares an_law_squares cd_law_squares ct_law_squares), sl_law_squares⟩)
    (c_law_squares : PySem.W.codeIn K cd_law_squares "_law_squares" = true)
    (k_law_squares : PySem.W.keepIn K (.ref f_law_squares) = true)
    (a_law_numbers : PySem.W.nsIn K mainGlobals "_law_numbers" = some (some (.ref f_law_numbers)))
    (l_law_numbers : K.lookup f_law_numbers = some ⟨oc_law_numbers, od_law_numbers, .func (PySem.W.fnOf "_law_numbers" "_law_numbers" (defArgs st__law_numbers) (defBody st__law_numbers) (defScope st__law_numbers) .none kV_law_numbers dc_law_numbers pm_law_numbers an_law_numbers cd_law_numbers ct_law_numbers), sl_law_numbers⟩)
    (c_law_numbers : PySem.W.codeIn K cd_law_numbers "_law_numbers" = true)
    (k_law_numbers : PySem.W.keepIn K (.ref f_law_numbers) = true)
    (a_law_root : PySem.W.nsIn K mainGlobals "_law_root" = some (some (.ref f_law_root)))
    (l_law_root : K.lookup f_law_root = some ⟨oc_law_root, od_law_root, .func (PySem.W.fnOf "_law_root" "_law_root" (defArgs st__law_root) (defBody st__law_root) (defScope st__law_root) .none kV_law_root dc_law_root pm_law_root an_law_root cd_law_root ct_law_root), sl_law_root⟩)
    (c_law_root : PySem.W.codeIn K cd_law_root "_law_root" = true)
    (k_law_root : PySem.W.keepIn K (.ref f_law_root) = true)
    (a_law_asked : PySem.W.nsIn K mainGlobals "_law_asked" = some (some (.ref f_law_asked)))
    (l_law_asked : K.lookup f_law_asked = some ⟨oc_law_asked, od_law_asked, .func (PySem.W.fnOf "_law_asked" "_law_asked" (defArgs st__law_asked) (defBody st__law_asked) (defScope st__law_asked) .none kV_law_asked dc_law_asked pm_law_asked an_law_asked cd_law_asked ct_law_asked), sl_law_asked⟩)
    (c_law_asked : PySem.W.codeIn K cd_law_asked "_law_asked" = true)
    (k_law_asked : PySem.W.keepIn K (.ref f_law_asked) = true)
    (a_law : PySem.W.nsIn K mainGlobals "law" = some (some (.ref f_law)))
    (l_law : K.lookup f_law = some ⟨oc_law, od_law, .func (PySem.W.fnOf "law" "law" (defArgs st_law) (defBody st_law) (defScope st_law) .none kV_law dc_law pm_law an_law cd_law ct_law), sl_law⟩)
    (c_law : PySem.W.codeIn K cd_law "law" = true)
    (k_law : PySem.W.keepIn K (.ref f_law) = true)
    (z_abs : PySem.W.nsIn K mainGlobals "abs" = some none)
    (z_bool : PySem.W.nsIn K mainGlobals "bool" = some none)
    (z_int : PySem.W.nsIn K mainGlobals "int" = some none)
    (z_isinstance : PySem.W.nsIn K mainGlobals "isinstance" = some none)
    (z_len : PySem.W.nsIn K mainGlobals "len" = some none)
    (z_list : PySem.W.nsIn K mainGlobals "list" = some none)
    (z_max : PySem.W.nsIn K mainGlobals "max" = some none)
    (z_min : PySem.W.nsIn K mainGlobals "min" = some none)
    (z_range : PySem.W.nsIn K mainGlobals "range" = some none)
    (z_sorted : PySem.W.nsIn K mainGlobals "sorted" = some none)
    (z_sum : PySem.W.nsIn K mainGlobals "sum" = some none) :
    ∃ fd : FuncData, (∀ (s : Shared) (v : Value), BindsTo s fd ⟨[v], []⟩ [("script", v)]) ∧ ∀ base : Heap, K.In base → base.Ns mainGlobals mg → FnOk l.prog w K mg base CX0 7 fa fd ["script"] (spLaw K) := by
  have e := hfa.symm.trans (PySem.W.mg_of X G a_law)
  cases e
  have T : Txt K mg := ⟨PySem.W.mg_none_of X G z_abs, PySem.W.mg_none_of X G z_bool, PySem.W.mg_none_of X G z_int, PySem.W.mg_none_of X G z_isinstance, PySem.W.mg_none_of X G z_len, PySem.W.mg_none_of X G z_list, PySem.W.mg_none_of X G z_max, PySem.W.mg_none_of X G z_min, PySem.W.mg_none_of X G z_range, PySem.W.mg_none_of X G z_sorted, PySem.W.mg_none_of X G z_sum⟩
  have D_tie_of : Df K mg "tie_of" st_tie_of := ⟨_, _, fun_mk (st := st_tie_of) l_tie_of c_tie_of k_tie_of, PySem.W.mg_of X G a_tie_of⟩
  have D_are_joined : Df K mg "are_joined" st_are_joined := ⟨_, _, fun_mk (st := st_are_joined) l_are_joined c_are_joined k_are_joined, PySem.W.mg_of X G a_are_joined⟩
  have D_square_number : Df K mg "square_number" st_square_number := ⟨_, _, fun_mk (st := st_square_number) l_square_number c_square_number k_square_number, PySem.W.mg_of X G a_square_number⟩
  have D_square_numbers : Df K mg "square_numbers" st_square_numbers := ⟨_, _, fun_mk (st := st_square_numbers) l_square_numbers c_square_numbers k_square_numbers, PySem.W.mg_of X G a_square_numbers⟩
  have D_least_sum : Df K mg "least_sum" st_least_sum := ⟨_, _, fun_mk (st := st_least_sum) l_least_sum c_least_sum k_least_sum, PySem.W.mg_of X G a_least_sum⟩
  have D__law_feed : Df K mg "_law_feed" st__law_feed := ⟨_, _, fun_mk (st := st__law_feed) l_law_feed c_law_feed k_law_feed, PySem.W.mg_of X G a_law_feed⟩
  have D__law_draw : Df K mg "_law_draw" st__law_draw := ⟨_, _, fun_mk (st := st__law_draw) l_law_draw c_law_draw k_law_draw, PySem.W.mg_of X G a_law_draw⟩
  have D__law_is_whole : Df K mg "_law_is_whole" st__law_is_whole := ⟨_, _, fun_mk (st := st__law_is_whole) l_law_is_whole c_law_is_whole k_law_is_whole, PySem.W.mg_of X G a_law_is_whole⟩
  have D__law_pairs : Df K mg "_law_pairs" st__law_pairs := ⟨_, _, fun_mk (st := st__law_pairs) l_law_pairs c_law_pairs k_law_pairs, PySem.W.mg_of X G a_law_pairs⟩
  have D__law_meet : Df K mg "_law_meet" st__law_meet := ⟨_, _, fun_mk (st := st__law_meet) l_law_meet c_law_meet k_law_meet, PySem.W.mg_of X G a_law_meet⟩
  have D__law_joinings : Df K mg "_law_joinings" st__law_joinings := ⟨_, _, fun_mk (st := st__law_joinings) l_law_joinings c_law_joinings k_law_joinings, PySem.W.mg_of X G a_law_joinings⟩
  have D__law_names : Df K mg "_law_names" st__law_names := ⟨_, _, fun_mk (st := st__law_names) l_law_names c_law_names k_law_names, PySem.W.mg_of X G a_law_names⟩
  have D__law_tie : Df K mg "_law_tie" st__law_tie := ⟨_, _, fun_mk (st := st__law_tie) l_law_tie c_law_tie k_law_tie, PySem.W.mg_of X G a_law_tie⟩
  have D__law_renamed : Df K mg "_law_renamed" st__law_renamed := ⟨_, _, fun_mk (st := st__law_renamed) l_law_renamed c_law_renamed k_law_renamed, PySem.W.mg_of X G a_law_renamed⟩
  have D__law_many : Df K mg "_law_many" st__law_many := ⟨_, _, fun_mk (st := st__law_many) l_law_many c_law_many k_law_many, PySem.W.mg_of X G a_law_many⟩
  have D__law_shape : Df K mg "_law_shape" st__law_shape := ⟨_, _, fun_mk (st := st__law_shape) l_law_shape c_law_shape k_law_shape, PySem.W.mg_of X G a_law_shape⟩
  have D__law_table : Df K mg "_law_table" st__law_table := ⟨_, _, fun_mk (st := st__law_table) l_law_table c_law_table k_law_table, PySem.W.mg_of X G a_law_table⟩
  have D__law_sum : Df K mg "_law_sum" st__law_sum := ⟨_, _, fun_mk (st := st__law_sum) l_law_sum c_law_sum k_law_sum, PySem.W.mg_of X G a_law_sum⟩
  have D__law_squares : Df K mg "_law_squares" st__law_squares := ⟨_, _, fun_mk (st := st__law_squares) l_law_squares c_law_squares k_law_squares, PySem.W.mg_of X G a_law_squares⟩
  have D__law_numbers : Df K mg "_law_numbers" st__law_numbers := ⟨_, _, fun_mk (st := st__law_numbers) l_law_numbers c_law_numbers k_law_numbers, PySem.W.mg_of X G a_law_numbers⟩
  have D__law_root : Df K mg "_law_root" st__law_root := ⟨_, _, fun_mk (st := st__law_root) l_law_root c_law_root k_law_root, PySem.W.mg_of X G a_law_root⟩
  have D__law_asked : Df K mg "_law_asked" st__law_asked := ⟨_, _, fun_mk (st := st__law_asked) l_law_asked c_law_asked k_law_asked, PySem.W.mg_of X G a_law_asked⟩
  refine ⟨PySem.W.fnOf "law" "law" (defArgs st_law) (defBody st_law) (defScope st_law) .none kV_law dc_law pm_law an_law cd_law ct_law, fun s v => .of_eq rfl, fun base _ _ => ?_⟩
  have C_tie_of := ok_tie_of (P := l.prog) (w := w) (base := base) T D_tie_of 
  have C_are_joined := ok_are_joined (P := l.prog) (w := w) (base := base) T D_are_joined C_tie_of
  have C_square_number := ok_square_number (P := l.prog) (w := w) (base := base) T D_square_number C_are_joined
  have C_square_numbers := ok_square_numbers (P := l.prog) (w := w) (base := base) T D_square_numbers C_square_number
  have C_least_sum := ok_least_sum (P := l.prog) (w := w) (base := base) T D_least_sum C_square_numbers
  have C__law_feed := ok__law_feed (P := l.prog) (w := w) (base := base) T D__law_feed 
  have C__law_draw := ok__law_draw (P := l.prog) (w := w) (base := base) T D__law_draw 
  have C__law_is_whole := ok__law_is_whole (P := l.prog) (w := w) (base := base) T D__law_is_whole 
  have C__law_pairs := ok__law_pairs (P := l.prog) (w := w) (base := base) T D__law_pairs 
  have C__law_meet := ok__law_meet (P := l.prog) (w := w) (base := base) T D__law_meet 
  have C__law_joinings := ok__law_joinings (P := l.prog) (w := w) (base := base) T D__law_joinings C__law_meet
  have C__law_names := ok__law_names (P := l.prog) (w := w) (base := base) T D__law_names C__law_draw
  have C__law_tie := ok__law_tie (P := l.prog) (w := w) (base := base) T D__law_tie 
  have C__law_renamed := ok__law_renamed (P := l.prog) (w := w) (base := base) T D__law_renamed C__law_tie
  have C__law_many := ok__law_many (P := l.prog) (w := w) (base := base) T D__law_many C__law_pairs C__law_draw
  have C__law_shape := ok__law_shape (P := l.prog) (w := w) (base := base) T D__law_shape C__law_draw C__law_pairs C__law_renamed C__law_names
  have C__law_table := ok__law_table (P := l.prog) (w := w) (base := base) T D__law_table C__law_tie
  have C__law_sum := ok__law_sum (P := l.prog) (w := w) (base := base) T D__law_sum 
  have C__law_squares := ok__law_squares (P := l.prog) (w := w) (base := base) T D__law_squares 
  have C__law_numbers := ok__law_numbers (P := l.prog) (w := w) (base := base) T D__law_numbers C__law_draw
  have C__law_root := ok__law_root (P := l.prog) (w := w) (base := base) T D__law_root C__law_draw C__law_many
  have C__law_asked := ok__law_asked (P := l.prog) (w := w) (base := base) T D__law_asked C_square_numbers C__law_table C__law_is_whole C_least_sum C__law_sum
  exact ok_law T (fun_mk (st := st_law) l_law c_law k_law) C__law_feed C__law_root C__law_names C__law_joinings C__law_numbers C__law_asked C_least_sum C__law_squares C_square_numbers C__law_draw C__law_shape C__law_renamed
theorem walk {l : PySem.W.OpenLaw} {q : Program} {loose : List Str} {XP : (Str → Option Value) → Heap → Prop} {YP : World → Heap → Prop} {d : DefRec} {K : Params → PySem.W.Frag} (hn : l.most = some 63) (hdf : d.params.defaults = [])
    (hY : ∀ (w : World) (h : Heap), YP w h → (K w.params).In h)
    (F : ∀ (w : World) (mg : Str → Option Value) (fa : Addr) (h : Heap), (K w.params).In h → h.Ns mainGlobals mg → mg d.name = some (.ref fa) →
      ∃ fd : FuncData, (∀ (s : Shared) (u : Value), BindsTo s fd ⟨[u], []⟩ [("script", u)]) ∧ ∀ base : Heap, (K w.params).In base → base.Ns mainGlobals mg → FnOk l.prog w (K w.params) mg base CX0 7 fa fd ["script"] (spLaw (K w.params))) :
    PySem.W.WalkO q loose XP YP l.row.toRowW d [] (fun f vs => PySem.call f vs) :=
  L2.walk_of (n := 63) (k := 7) (x := "script") (CX := fun _ => CX0) (sp := fun w => spLaw (K w.params)) hn (by decide) hdf ⟨rfl, by decide, by decide⟩ hY F (fun _ _ a ns hl _ hS => ⟨a, ns, rfl, hS, hl, fun _ => rfl⟩) fun _ _ _ _ _ z => z

end K93

open PySem PySem.W PyProof.Rows in
set_option maxRecDepth 100000 in
set_option maxHeartbeats 0 in
theorem PySem.Challenge.cw_tiesasplaces_k93_square_numbers_and_sums_holds : PySem.Challenge.rw_tiesasplaces_k93_square_numbers_and_sums.Holds := by
  w_on; o_law; k_head; (case hw => w_witness2)
  k_fill
  refine K93.walk (l := PySem.Challenge.rw_tiesasplaces_k93_square_numbers_and_sums) rfl rfl (fun w h Y => PySem.W.kIn_of Y) ?F
  case F =>
    intro w mg fa h KX G hmg
    refine' K93.all_mk KX G hmg ?a_tie_of ?l_tie_of ?c_tie_of ?k_tie_of ?a_are_joined ?l_are_joined ?c_are_joined ?k_are_joined ?a_square_number ?l_square_number ?c_square_number ?k_square_number ?a_square_numbers ?l_square_numbers ?c_square_numbers ?k_square_numbers ?a_least_sum ?l_least_sum ?c_least_sum ?k_least_sum ?a_law_feed ?l_law_feed ?c_law_feed ?k_law_feed ?a_law_draw ?l_law_draw ?c_law_draw ?k_law_draw ?a_law_is_whole ?l_law_is_whole ?c_law_is_whole ?k_law_is_whole ?a_law_pairs ?l_law_pairs ?c_law_pairs ?k_law_pairs ?a_law_meet ?l_law_meet ?c_law_meet ?k_law_meet ?a_law_joinings ?l_law_joinings ?c_law_joinings ?k_law_joinings ?a_law_names ?l_law_names ?c_law_names ?k_law_names ?a_law_tie ?l_law_tie ?c_law_tie ?k_law_tie ?a_law_renamed ?l_law_renamed ?c_law_renamed ?k_law_renamed ?a_law_many ?l_law_many ?c_law_many ?k_law_many ?a_law_shape ?l_law_shape ?c_law_shape ?k_law_shape ?a_law_table ?l_law_table ?c_law_table ?k_law_table ?a_law_sum ?l_law_sum ?c_law_sum ?k_law_sum ?a_law_squares ?l_law_squares ?c_law_squares ?k_law_squares ?a_law_numbers ?l_law_numbers ?c_law_numbers ?k_law_numbers ?a_law_root ?l_law_root ?c_law_root ?k_law_root ?a_law_asked ?l_law_asked ?c_law_asked ?k_law_asked ?a_law ?l_law ?c_law ?k_law ?z_abs ?z_bool ?z_int ?z_isinstance ?z_len ?z_list ?z_max ?z_min ?z_range ?z_sorted ?z_sum
    (case a_tie_of => k_is)
    (case l_tie_of => k_is)
    (case c_tie_of => k_is)
    (case k_tie_of => k_is)
    (case a_are_joined => k_is)
    (case l_are_joined => k_is)
    (case c_are_joined => k_is)
    (case k_are_joined => k_is)
    (case a_square_number => k_is)
    (case l_square_number => k_is)
    (case c_square_number => k_is)
    (case k_square_number => k_is)
    (case a_square_numbers => k_is)
    (case l_square_numbers => k_is)
    (case c_square_numbers => k_is)
    (case k_square_numbers => k_is)
    (case a_least_sum => k_is)
    (case l_least_sum => k_is)
    (case c_least_sum => k_is)
    (case k_least_sum => k_is)
    (case a_law_feed => k_is)
    (case l_law_feed => k_is)
    (case c_law_feed => k_is)
    (case k_law_feed => k_is)
    (case a_law_draw => k_is)
    (case l_law_draw => k_is)
    (case c_law_draw => k_is)
    (case k_law_draw => k_is)
    (case a_law_is_whole => k_is)
    (case l_law_is_whole => k_is)
    (case c_law_is_whole => k_is)
    (case k_law_is_whole => k_is)
    (case a_law_pairs => k_is)
    (case l_law_pairs => k_is)
    (case c_law_pairs => k_is)
    (case k_law_pairs => k_is)
    (case a_law_meet => k_is)
    (case l_law_meet => k_is)
    (case c_law_meet => k_is)
    (case k_law_meet => k_is)
    (case a_law_joinings => k_is)
    (case l_law_joinings => k_is)
    (case c_law_joinings => k_is)
    (case k_law_joinings => k_is)
    (case a_law_names => k_is)
    (case l_law_names => k_is)
    (case c_law_names => k_is)
    (case k_law_names => k_is)
    (case a_law_tie => k_is)
    (case l_law_tie => k_is)
    (case c_law_tie => k_is)
    (case k_law_tie => k_is)
    (case a_law_renamed => k_is)
    (case l_law_renamed => k_is)
    (case c_law_renamed => k_is)
    (case k_law_renamed => k_is)
    (case a_law_many => k_is)
    (case l_law_many => k_is)
    (case c_law_many => k_is)
    (case k_law_many => k_is)
    (case a_law_shape => k_is)
    (case l_law_shape => k_is)
    (case c_law_shape => k_is)
    (case k_law_shape => k_is)
    (case a_law_table => k_is)
    (case l_law_table => k_is)
    (case c_law_table => k_is)
    (case k_law_table => k_is)
    (case a_law_sum => k_is)
    (case l_law_sum => k_is)
    (case c_law_sum => k_is)
    (case k_law_sum => k_is)
    (case a_law_squares => k_is)
    (case l_law_squares => k_is)
    (case c_law_squares => k_is)
    (case k_law_squares => k_is)
    (case a_law_numbers => k_is)
    (case l_law_numbers => k_is)
    (case c_law_numbers => k_is)
    (case k_law_numbers => k_is)
    (case a_law_root => k_is)
    (case l_law_root => k_is)
    (case c_law_root => k_is)
    (case k_law_root => k_is)
    (case a_law_asked => k_is)
    (case l_law_asked => k_is)
    (case c_law_asked => k_is)
    (case k_law_asked => k_is)
    (case a_law => k_is)
    (case l_law => k_is)
    (case c_law => k_is)
    (case k_law => k_is)
    (case z_abs => k_is)
    (case z_bool => k_is)
    (case z_int => k_is)
    (case z_isinstance => k_is)
    (case z_len => k_is)
    (case z_list => k_is)
    (case z_max => k_is)
    (case z_min => k_is)
    (case z_range => k_is)
    (case z_sorted => k_is)
    (case z_sum => k_is)
