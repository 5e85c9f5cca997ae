import PyProof.Rows.All
import HandS.ForMost
import HandS.Wide
import HandS.TupAny
import HandS.More
import HandS.IsInst
import HandS.Sort
import HandS.SortInts
import HandS.Gcd
import HandS.TupMul
import HandS.Flow
import HandS.Style
import PyProof.LongRange
import HandS.Deep
import PyProof.SeqIndex
import HandS.Conv
import HandS.Defaults
import HandS.SetFor
import HandS.Set
import KE.SortData
import KE.KRevSl
import HandS.Iter
import HandS.Zip
import HandS.Head0
import HandS.Head1
import HandS.Head2
import HandS.HeadEnd
import HandS.HeadHook1
import HandS.HeadHook2
import HandS.HeadHook3
import HandS.HeadHook4
import KE.HD3
import PySem.Challenge.RW_papersdealt_k89_whole_looks_and_guesses
set_option Elab.async false
set_option linter.all false
set_option maxRecDepth 100000
/-! Ev1: a pure evaluator layer over HandS. Slots hold frozen data, owned lists, or an in-out parameter. -/
namespace Ev
open PySem PySem.Spec L2
open PyProof.Rows hiding St

/-! ### heaps -/
def Hsub (Z H : Hp) : Prop := ∀ b o, Z b = some o → H b = some o
theorem Hsub.refl {Z : Hp} : Hsub Z Z := fun _ _ h => h
theorem Hsub.trans {A B C : Hp} (a : Hsub A B) (b : Hsub B C) : Hsub A C := fun c o h => b c o (a c o h)
theorem Hsub.rd {Z H : Hp} {a : Addr} {u : HO} (s : Hsub Z H) (h : Rd Z a u) : Rd H a u := by
  rcases h with h | ⟨o, h⟩
  · exact .inl (s _ _ h)
  · exact .inr ⟨o, s _ _ h⟩
theorem Hsub.sql {K : PySem.W.Frag} {Z H : Hp} {a : Addr} {xs : List V} (s : Hsub Z H) (h : SqL K Z a xs) : SqL K H a xs := h.imp (s.rd) id
theorem Hsub.sqt {K : PySem.W.Frag} {Z H : Hp} {a : Addr} {xs : List V} (s : Hsub Z H) (h : SqT K Z a xs) : SqT K H a xs := h.imp (s.rd) id
mutual
/-- frozen data as they stand: lists, tuples known to their object; no part of the module's own -/
inductive Dp (K : PySem.W.Frag) (H : Hp) : V → PyData → Prop
  | non : Dp K H .non .none
  | bl (b : Bool) : Dp K H (.bl b) (.bool b)
  | int (i : Int) : Dp K H (.int i) (.int i)
  | str (x : Str) : Dp K H (.str x) (.str x)
  | lst {a : Addr} {xs : List V} {ds : List PyData} : SqL K H a xs → DpAll K H xs ds → Dp K H (.ref a) (.list ds)
  | tup {a : Addr} {xs : List V} {ds : List PyData} : (∃ o, H a = some (.frz o (.tup xs))) → DpAll K H xs ds → Dp K H (.ref a) (.tuple ds)
inductive DpAll (K : PySem.W.Frag) (H : Hp) : List V → List PyData → Prop
  | nil : DpAll K H [] []
  | cons {v : V} {vs : List V} {d : PyData} {ds : List PyData} : Dp K H v d → DpAll K H vs ds → DpAll K H (v :: vs) (d :: ds)
end
mutual
theorem Dp.l2 {K : PySem.W.Frag} {Z : Hp} : ∀ {d : PyData} {v : V}, Dp K Z v d → L2.Dp K Z v d
  | .none, _, h => by cases h; exact .non
  | .bool b, _, h => by cases h; exact .bl b
  | .int i, _, h => by cases h; exact .int i
  | .str x, _, h => by cases h; exact .str x
  | .list ds, _, h => by cases h with | lst h1 h2 => exact .lst h1 (DpAll.l2 h2)
  | .tuple ds, _, h => by cases h with | tup h1 h2 => exact .tup (.inl (.inr h1)) (DpAll.l2 h2)
  | .dict kvs, _, h => by cases h
theorem DpAll.l2 {K : PySem.W.Frag} {Z : Hp} : ∀ {ds : List PyData} {vs : List V}, DpAll K Z vs ds → L2.DpAll K Z vs ds
  | [], _, h => by cases h; exact .nil
  | d :: ds, _, h => by cases h with | cons h1 h2 => exact .cons (Dp.l2 h1) (DpAll.l2 h2)
end
mutual
theorem Dp.mono {K : PySem.W.Frag} {Z Z' : Hp} (s : Hsub Z Z') : ∀ {d : PyData} {v : V}, Dp K Z v d → Dp K Z' v d
  | .none, _, h => by cases h; exact .non
  | .bool b, _, h => by cases h; exact .bl b
  | .int i, _, h => by cases h; exact .int i
  | .str x, _, h => by cases h; exact .str x
  | .list ds, _, h => by cases h with | lst h1 h2 => exact .lst (s.sql h1) (DpAll.mono s h2)
  | .tuple ds, _, h => by cases h with | tup h1 h2 => exact .tup (h1.imp fun o e => s _ _ e) (DpAll.mono s h2)
  | .dict kvs, _, h => by cases h
theorem DpAll.mono {K : PySem.W.Frag} {Z Z' : Hp} (s : Hsub Z Z') : ∀ {ds : List PyData} {vs : List V}, DpAll K Z vs ds → DpAll K Z' vs ds
  | [], _, h => by cases h; exact .nil
  | d :: ds, _, h => by cases h with | cons h1 h2 => exact .cons (Dp.mono s h1) (DpAll.mono s h2)
end
theorem DpAll.length {K : PySem.W.Frag} {Z : Hp} : ∀ {ds : List PyData} {vs : List V}, DpAll K Z vs ds → vs.length = ds.length
  | [], _, h => by cases h; rfl
  | d :: ds, _, h => by cases h with | cons h1 h2 => simp [DpAll.length h2]
theorem DpAll.get {K : PySem.W.Frag} {Z : Hp} : ∀ {ds : List PyData} {vs : List V} {i : Nat} {d : PyData}, DpAll K Z vs ds → ds[i]? = some d → ∃ v, vs[i]? = some v ∧ Dp K Z v d
  | [], _, _, _, h, e => by simp at e
  | d :: ds, _, 0, _, h, e => by cases h with | cons h1 h2 => simp at e; subst e; exact ⟨_, rfl, h1⟩
  | d :: ds, _, i + 1, _, h, e => by cases h with | cons h1 h2 => simpa using DpAll.get h2 (by simpa using e)
theorem DpAll.get' {K : PySem.W.Frag} {Z : Hp} {ds : List PyData} {vs : List V} {i : Nat} {v : V} (h : DpAll K Z vs ds) (e : vs[i]? = some v) : ∃ d, ds[i]? = some d ∧ Dp K Z v d := by
  have hi : i < ds.length := by rw [← h.length]; exact (List.getElem?_eq_some_iff.mp e).1
  obtain ⟨v', e', r⟩ := h.get (List.getElem?_eq_getElem hi)
  rw [e] at e'; cases e'
  exact ⟨_, List.getElem?_eq_getElem hi, r⟩
theorem DpAll.append {K : PySem.W.Frag} {Z : Hp} : ∀ {ds es : List PyData} {vs us : List V}, DpAll K Z vs ds → DpAll K Z us es → DpAll K Z (vs ++ us) (ds ++ es)
  | [], _, _, _, h, k => by cases h; exact k
  | d :: ds, _, _, _, h, k => by cases h with | cons h1 h2 => exact .cons h1 (DpAll.append h2 k)
theorem DpAll.set {K : PySem.W.Frag} {Z : Hp} {d : PyData} {v : V} (r : Dp K Z v d) : ∀ {ds : List PyData} {vs : List V} (i : Nat), DpAll K Z vs ds → DpAll K Z (vs.set i v) (ds.set i d)
  | [], _, _, h => by cases h; exact .nil
  | _ :: _, _, 0, h => by cases h with | cons h1 h2 => exact .cons r h2
  | _ :: _, _, i + 1, h => by cases h with | cons h1 h2 => exact .cons h1 (DpAll.set r i h2)
theorem DpAll.take {K : PySem.W.Frag} {Z : Hp} : ∀ {ds : List PyData} {vs : List V} (i : Nat), DpAll K Z vs ds → DpAll K Z (vs.take i) (ds.take i)
  | _, _, 0, h => .nil
  | [], _, _ + 1, h => by cases h; exact .nil
  | _ :: _, _, i + 1, h => by cases h with | cons h1 h2 => exact .cons h1 (DpAll.take i h2)
theorem DpAll.drop {K : PySem.W.Frag} {Z : Hp} : ∀ {ds : List PyData} {vs : List V} (i : Nat), DpAll K Z vs ds → DpAll K Z (vs.drop i) (ds.drop i)
  | _, _, 0, h => h
  | [], _, _ + 1, h => by cases h; exact .nil
  | _ :: _, _, i + 1, h => by cases h with | cons h1 h2 => exact DpAll.drop i h2
theorem DpAll.reverse {K : PySem.W.Frag} {Z : Hp} : ∀ {ds : List PyData} {vs : List V}, DpAll K Z vs ds → DpAll K Z vs.reverse ds.reverse
  | [], _, h => by cases h; exact .nil
  | d :: ds, _, h => by
    cases h with | cons h1 h2 => rw [List.reverse_cons, List.reverse_cons]; exact (DpAll.reverse h2).append (.cons h1 .nil)
theorem DpAll.erase {K : PySem.W.Frag} {Z : Hp} : ∀ {ds : List PyData} {vs : List V} (i : Nat), DpAll K Z vs ds → DpAll K Z (vs.eraseIdx i) (ds.eraseIdx i)
  | [], _, _, h => by cases h; exact .nil
  | _ :: _, _, 0, h => by cases h with | cons h1 h2 => exact h2
  | _ :: _, _, i + 1, h => by cases h with | cons h1 h2 => exact .cons h1 (DpAll.erase i h2)


abbrev D := PyData
inductive Slot | no | val (d : D) | own (d : D) | io (d : D)
inductive RV | fz (d : D) | fr (d : D) | bw (i : Nat)
abbrev Ρ := List Slot
abbrev EF := Ρ → Option (RV × Ρ)
abbrev AF := Ρ → Option (List RV × Ρ)
abbrev TF := Ρ → Option (Bool × Ρ)

def Slot.ct : Slot → Option D
  | .no => none
  | .val d => some d
  | .own d => some d
  | .io d => some d
def Slot.mut : Slot → Option D
  | .own d => some d
  | .io d => some d
  | _ => none
def Slot.put : Slot → D → Slot
  | .io _, d => .io d
  | _, d => .own d

/-- an owned container at a: in H, not frozen, its items frozen -/
inductive Own (K : PySem.W.Frag) (H Z : Hp) (a : Addr) : D → Prop
  | lst {xs : List V} {ds : List PyData} : H a = some (.lst xs) → DpAll K Z xs ds → xs.length ≤ sizeLine → Own K H Z a (.list ds)
  | dic {ks : List (Key × V)} {kvs : List (PyData × PyData)} : H a = some (.dK ks) → (kvs.map (·.1)) = (ks.map fun p => match p.1 with | .inl i => PyData.int i | .inr x => PyData.str x) → DpAll K Z (ks.map (·.2)) (kvs.map (·.2)) → Own K H Z a (.dict kvs)
theorem Own.mono {K : PySem.W.Frag} {H Z H' Z' : Hp} {a : Addr} {d : D} (h : Own K H Z a d) (e : ∀ o, H a = some o → H' a = some o) (s : Hsub Z Z') : Own K H' Z' a d := by
  cases h with
  | lst h1 h2 h3 => exact .lst (e _ h1) (DpAll.mono s h2) h3
  | dic h1 h2 h3 => exact .dic (e _ h1) h2 (DpAll.mono s h3)
theorem Own.sm {K : PySem.W.Frag} {H Z : Hp} {a : Addr} {d : D} (h : Own K H Z a d) : ∃ o, H a = some o := by
  cases h with
  | lst h1 h2 h3 => exact ⟨_, h1⟩
  | dic h1 h2 h3 => exact ⟨_, h1⟩

/-- what may be frozen: lists and tuples of a size; a tuple is known to its object, which has no dict -/
def ZG : HO → Prop
  | .lst xs => xs.length ≤ sizeLine
  | .tup _ => False
  | .frz o (.tup xs) => o.dict = none ∧ xs.length ≤ sizeLine
  | _ => True
/-- what may be read: frozen, or an owned container -/
def Sh (K : PySem.W.Frag) (H Z : Hp) (v : V) (d : D) : Prop := Dp K Z v d ∨ ∃ a, v = .ref a ∧ Own K H Z a d
theorem Sh.list {K : PySem.W.Frag} {H Z : Hp} {v : V} {ds : List PyData} (s : Hsub Z H) (h : Sh K H Z v (.list ds)) : ∃ a xs, v = .ref a ∧ SqL K H a xs ∧ DpAll K Z xs ds := by
  rcases h with h | ⟨a, rfl, h⟩
  · cases h with | lst h1 h2 => exact ⟨_, _, rfl, s.sql h1, h2⟩
  · cases h with | lst h1 h2 h3 => exact ⟨_, _, rfl, .of h1, h2⟩
theorem Sh.tuple {K : PySem.W.Frag} {H Z : Hp} {v : V} {ds : List PyData} (s : Hsub Z H) (h : Sh K H Z v (.tuple ds)) : ∃ a xs, v = .ref a ∧ SqT K H a xs ∧ DpAll K Z xs ds := by
  rcases h with h | ⟨a, rfl, h⟩
  · cases h with | tup h1 h2 => exact ⟨_, _, rfl, .inl (.inr (h1.imp fun o e => s _ _ e)), h2⟩
  · cases h
theorem Sh.int {K : PySem.W.Frag} {H Z : Hp} {v : V} {i : Int} (h : Sh K H Z v (.int i)) : v = .int i := by
  rcases h with h | ⟨a, rfl, h⟩
  · cases h; rfl
  · cases h
theorem Sh.bool {K : PySem.W.Frag} {H Z : Hp} {v : V} {i : Bool} (h : Sh K H Z v (.bool i)) : v = .bl i := by
  rcases h with h | ⟨a, rfl, h⟩
  · cases h; rfl
  · cases h
theorem Sh.str {K : PySem.W.Frag} {H Z : Hp} {v : V} {i : Str} (h : Sh K H Z v (.str i)) : v = .str i := by
  rcases h with h | ⟨a, rfl, h⟩
  · cases h; rfl
  · cases h
theorem Sh.non {K : PySem.W.Frag} {H Z : Hp} {v : V} (h : Sh K H Z v .none) : v = .non := by
  rcases h with h | ⟨a, rfl, h⟩
  · cases h; rfl
  · cases h
/-- deep reading in the whole heap (no dict) -/
theorem Sh.dp {K : PySem.W.Frag} {H Z : Hp} {v : V} {d : D} (s : Hsub Z H) (hd : ∀ kvs, d ≠ .dict kvs) (h : Sh K H Z v d) : L2.Dp K H v d := by
  rcases h with h | ⟨a, rfl, h⟩
  · exact (Dp.mono s h).l2
  · cases h with
    | lst h1 h2 h3 => exact .lst (.of h1) (DpAll.mono s h2).l2
    | dic h1 h2 h3 => exact absurd rfl (hd _)

/-! ### the environment -/
def OwnA (σ : St) (ρ : Ρ) (a : Addr) : Prop := ∃ (i : Nat) (s : Slot) (d : D), ρ[i]? = some s ∧ s.mut = some d ∧ σ[i]? = some (some (.ref a))
structure EnvOk (K : PySem.W.Frag) (H Z : Hp) (σ : St) (ρ : Ρ) : Prop where
  len : σ.length = ρ.length
  zh : Hsub Z H
  zl : ∀ b u, Z b = some u → ZG u
  val : ∀ (i : Nat) (d : D), ρ[i]? = some (.val d) → ∃ v, σ[i]? = some (some v) ∧ Dp K Z v d
  own : ∀ (i : Nat) (s : Slot) (d : D), ρ[i]? = some s → s.mut = some d → ∃ a, σ[i]? = some (some (.ref a)) ∧ Own K H Z a d ∧ Z a = none
  sep : ∀ (i j : Nat) (s t : Slot) (d e : D) (a : Addr), ρ[i]? = some s → s.mut = some d → ρ[j]? = some t → t.mut = some e → σ[i]? = some (some (.ref a)) → σ[j]? = some (some (.ref a)) → i = j
/-- a step: what may change is O; what becomes frozen was new or O -/
structure Stp (O : Addr → Prop) (H Z H' Z' : Hp) : Prop where
  zz : Hsub Z Z'
  fr : ∀ b o, H b = some o → ¬ O b → H' b = some o
  nz : ∀ b o, Z' b = some o → Z b = some o ∨ H b = none ∨ O b
theorem Stp.refl {O : Addr → Prop} {H Z : Hp} : Stp O H Z H Z := ⟨.refl, fun _ _ h _ => h, fun _ _ h => .inl h⟩
theorem Stp.trans {O O1 : Addr → Prop} {H Z H1 Z1 H2 Z2 : Hp} (a : Stp O H Z H1 Z1) (ho : ∀ b, O1 b → O b ∨ H b = none) (b : Stp O1 H1 Z1 H2 Z2) : Stp O H Z H2 Z2 where
  zz := a.zz.trans b.zz
  fr := fun c o h n => b.fr c o (a.fr c o h n) fun q => (ho c q).elim n fun z => by rw [z] at h; cases h
  nz := fun c o h => by
    have key : H1 c = none → H c = none ∨ O c := fun z => by
      cases e : H c with
      | none => exact .inl rfl
      | some u =>
        by_cases q : O c
        · exact .inr q
        · rw [a.fr c u e q] at z; cases z
    rcases b.nz c o h with h1 | h1 | h1
    · exact a.nz c o h1
    · exact .inr (key h1)
    · rcases ho c h1 with q | q
      · exact .inr (.inr q)
      · exact .inr (.inl q)
theorem Stp.nonZ {O : Addr → Prop} {H Z H' Z' : Hp} (s : Stp O H Z H' Z') {a : Addr} (h : Z a = none) (n : ∃ o, H a = some o) (no : ¬ O a) : Z' a = none := by
  cases e : Z' a with
  | none => rfl
  | some o =>
    rcases s.nz a o e with q | q | q
    · rw [h] at q; cases q
    · obtain ⟨u, hu⟩ := n; rw [hu] at q; cases q
    · exact absurd q no

/-- nothing new is owned, no new in-out slot -/
structure Ow (σ : St) (ρ ρ' : Ρ) : Prop where
  ow : ∀ a, OwnA σ ρ' a → OwnA σ ρ a
  io : ∀ (i : Nat) (d' : D), ρ'[i]? = some (.io d') → ∃ d, ρ[i]? = some (.io d)
theorem Ow.refl {σ : St} {ρ : Ρ} : Ow σ ρ ρ := ⟨fun _ h => h, fun _ d h => ⟨d, h⟩⟩
theorem Ow.trans {σ : St} {ρ ρ1 ρ2 : Ρ} (a : Ow σ ρ ρ1) (b : Ow σ ρ1 ρ2) : Ow σ ρ ρ2 := ⟨fun p h => a.ow p (b.ow p h), fun i d h => let ⟨d1, h1⟩ := b.io i d h; a.io i d1 h1⟩
/-- the value of a result -/
inductive RvOk (K : PySem.W.Frag) (H Z : Hp) (σ : St) (ρ : Ρ) (v : V) : RV → Prop
  | fz {d} : Dp K Z v d → RvOk K H Z σ ρ v (.fz d)
  | fr {a d} : v = .ref a → Own K H Z a d → Z a = none → ¬ OwnA σ ρ a → RvOk K H Z σ ρ v (.fr d)
  | bw {i : Nat} : σ[i]? = some (some v) → RvOk K H Z σ ρ v (.bw i)
structure Post (K : PySem.W.Frag) (σ : St) (ρ ρ' : Ρ) (H Z H' Z' : Hp) (v : V) (r : RV) : Prop where
  stp : Stp (OwnA σ ρ) H Z H' Z'
  env : EnvOk K H' Z' σ ρ'
  ow : Ow σ ρ ρ'
  rv : RvOk K H' Z' σ ρ' v r
  nw : ∀ a d, r = .fr d → v = .ref a → H a = none ∨ OwnA σ ρ a
/-- an expression's reading by its pure function -/
def tE (K : PySem.W.Frag) (f : EF) : TE := fun σ H Q => ∃ Z ρ r ρ', EnvOk K H Z σ ρ ∧ f ρ = some (r, ρ') ∧ ∀ v H' Z', Post K σ ρ ρ' H Z H' Z' v r → Q v H'
def tT (K : PySem.W.Frag) (f : TF) : TT := fun σ H Q => ∃ Z ρ b ρ', EnvOk K H Z σ ρ ∧ f ρ = some (b, ρ') ∧ ∀ H' Z', Stp (OwnA σ ρ) H Z H' Z' → EnvOk K H' Z' σ ρ' → Ow σ ρ ρ' → Q b H'
/-- arguments: frozen or borrowed -/
inductive RaOk (K : PySem.W.Frag) (Z : Hp) (σ : St) : V → RV → Prop
  | fz {v d} : Dp K Z v d → RaOk K Z σ v (.fz d)
  | bw {v : V} {i : Nat} : σ[i]? = some (some v) → RaOk K Z σ v (.bw i)
inductive RasOk (K : PySem.W.Frag) (Z : Hp) (σ : St) : List V → List RV → Prop
  | nil : RasOk K Z σ [] []
  | cons {v vs r rs} : RaOk K Z σ v r → RasOk K Z σ vs rs → RasOk K Z σ (v :: vs) (r :: rs)
theorem RaOk.mono {K : PySem.W.Frag} {Z Z' : Hp} {σ : St} {v : V} {r : RV} (h : RaOk K Z σ v r) (s : Hsub Z Z') : RaOk K Z' σ v r := by
  cases h with
  | fz h => exact .fz (Dp.mono s h)
  | bw h => exact .bw h
theorem RasOk.mono {K : PySem.W.Frag} {Z Z' : Hp} {σ : St} : ∀ {vs : List V} {rs : List RV}, RasOk K Z σ vs rs → Hsub Z Z' → RasOk K Z' σ vs rs
  | _, _, .nil, s => .nil
  | _, _, .cons h t, s => .cons (h.mono s) (t.mono s)
def tA (K : PySem.W.Frag) (f : AF) : TA := fun σ H Q => ∃ Z ρ rs ρ', EnvOk K H Z σ ρ ∧ f ρ = some (rs, ρ') ∧ ∀ vs H' Z', Stp (OwnA σ ρ) H Z H' Z' → EnvOk K H' Z' σ ρ' → Ow σ ρ ρ' → RasOk K Z' σ vs rs → Q vs H'

structure EvE (X : Cx) (e : Expr) (f : EF) : Prop where
  pe : PE X e (tE X.K f)
structure EvT (X : Cx) (e : Expr) (f : TF) : Prop where
  pt : PT X e (tT X.K f)
structure EvW (X : Cx) (e : Expr) (f : TF) : Prop where
  pw : PW X e (tT X.K f)
structure EvA (X : Cx) (es : List Expr) (f : AF) : Prop where
  pa : PA X es (tA X.K f)

theorem peImp {X : Cx} {e : Expr} {t t' : TE} (h : PE X e t) (i : ∀ σ H Q, t' σ H Q → t σ H Q) : PE X e t' := ⟨fun pins s σ H Q I q => h.run pins s σ H Q I (i σ H Q q)⟩
theorem ptImp {X : Cx} {e : Expr} {t t' : TT} (h : PT X e t) (i : ∀ σ H Q, t' σ H Q → t σ H Q) : PT X e t' := ⟨fun pins s σ H Q I q => h.run pins s σ H Q I (i σ H Q q)⟩
theorem pwImp {X : Cx} {e : Expr} {t t' : TT} (h : PW X e t) (i : ∀ σ H Q, t' σ H Q → t σ H Q) : PW X e t' := ⟨fun w pins s σ H Q I q => h.run w pins s σ H Q I (i σ H Q q)⟩
theorem paImp {X : Cx} {e : List Expr} {t t' : TA} (h : PA X e t) (i : ∀ σ H Q, t' σ H Q → t σ H Q) : PA X e t' := ⟨fun pos pins s σ H Q I q => h.run pos pins s σ H Q I (i σ H Q q)⟩
theorem psImp {X : Cx} {e : Stmt} {t t' : TS} (h : PS X e t) (i : ∀ D σ H, t' D σ H → t D σ H) : PS X e t' := ⟨fun pins s σ H D I q => h.run pins s σ H D I (i D σ H q)⟩
theorem pssImp {X : Cx} {e : List Stmt} {t t' : TS} (h : PSs X e t) (i : ∀ D σ H, t' D σ H → t D σ H) : PSs X e t' := ⟨fun pins s σ H D I q => h.run pins s σ H D I (i D σ H q)⟩

/-! ### slots -/
theorem EnvOk.lt {K : PySem.W.Frag} {H Z : Hp} {σ : St} {ρ : Ρ} (E : EnvOk K H Z σ ρ) {i : Nat} {s : Slot} (h : ρ[i]? = some s) : i < σ.length := by
  rw [E.len]; exact (List.getElem?_eq_some_iff.mp h).1
theorem getSet {α : Type} {l : List α} {i j : Nat} {x y : α} (h : (l.set i x)[j]? = some y) : (j = i ∧ y = x ∧ i < l.length) ∨ (j ≠ i ∧ l[j]? = some y) := by
  by_cases e : j = i
  · subst e
    have hl : j < l.length := by simpa using (List.getElem?_eq_some_iff.mp h).1
    rw [List.getElem?_set_self hl] at h
    exact .inl ⟨rfl, (Option.some.inj h).symm, hl⟩
  · rw [List.getElem?_set_ne (Ne.symm e)] at h
    exact .inr ⟨e, h⟩
/-- what is owned stays owned, what is frozen grows: the environment goes along -/
theorem EnvOk.step {K : PySem.W.Frag} {H Z H' Z' : Hp} {σ : St} {ρ : Ρ} (E : EnvOk K H Z σ ρ) (zz : Hsub Z Z') (zh : Hsub Z' H') (zl : ∀ b u, Z' b = some u → ZG u)
    (ow : ∀ a, OwnA σ ρ a → (∀ o, H a = some o → H' a = some o) ∧ Z' a = none) : EnvOk K H' Z' σ ρ where
  len := E.len
  zh := zh
  zl := zl
  val := fun i d h => let ⟨v, e, r⟩ := E.val i d h; ⟨v, e, Dp.mono zz r⟩
  own := fun i s d h m => by
    obtain ⟨a, e, r, z⟩ := E.own i s d h m
    obtain ⟨k1, k2⟩ := ow a ⟨i, s, d, h, m, e⟩
    exact ⟨a, e, r.mono k1 zz, k2⟩
  sep := E.sep
/-- a new object, not frozen -/
theorem EnvOk.newH {K : PySem.W.Frag} {H Z : Hp} {σ : St} {ρ : Ρ} (E : EnvOk K H Z σ ρ) {p : Addr} {o : HO} (hp : H p = none) : EnvOk K (upd H p o) Z σ ρ :=
  E.step .refl (fun b u h => by rw [upd_ne (ne_of_none (E.zh b u h) hp)]; exact E.zh b u h) E.zl fun a ⟨i, s, d, h, m, e⟩ => by
    obtain ⟨a', e', r, z⟩ := E.own i s d h m
    rw [e] at e'; cases e'
    obtain ⟨u, hu⟩ := r.sm
    exact ⟨fun o' h' => by rw [upd_ne (ne_of_none h' hp)]; exact h', z⟩
/-- a new object, frozen -/
theorem EnvOk.newZ {K : PySem.W.Frag} {H Z : Hp} {σ : St} {ρ : Ρ} (E : EnvOk K H Z σ ρ) {p : Addr} {o : HO} (hp : H p = none) (hl : ZG o) : EnvOk K (upd H p o) (upd Z p o) σ ρ := by
  have zp : Z p = none := by
    cases e : Z p with
    | none => rfl
    | some u => have := E.zh p u e; rw [hp] at this; cases this
  refine E.step (fun b u h => ?_) (fun b u h => ?_) (fun b u h => ?_) fun a ⟨i, s, d, h, m, e⟩ => ?_
  · rw [upd_ne (ne_of_none h zp)]; exact h
  · by_cases hb : b = p
    · subst hb; rw [upd_same] at h ⊢; exact h
    · rw [upd_ne hb] at h ⊢; exact E.zh b u h
  · by_cases hb : b = p
    · subst hb; rw [upd_same] at h
      cases h; exact hl
    · rw [upd_ne hb] at h; exact E.zl b u h
  · obtain ⟨a', e', r, z⟩ := E.own i s d h m
    rw [e] at e'; cases e'
    obtain ⟨u, hu⟩ := r.sm
    refine ⟨fun o' h' => by rw [upd_ne (ne_of_none h' hp)]; exact h', ?_⟩
    rw [upd_ne (ne_of_none hu hp)]; exact z
theorem EnvOk.znone {K : PySem.W.Frag} {H Z : Hp} {σ : St} {ρ : Ρ} (E : EnvOk K H Z σ ρ) {p : Addr} (hp : H p = none) : Z p = none := by
  cases e : Z p with
  | none => rfl
  | some u => have := E.zh p u e; rw [hp] at this; cases this
theorem EnvOk.notOwn {K : PySem.W.Frag} {H Z : Hp} {σ : St} {ρ : Ρ} (E : EnvOk K H Z σ ρ) {p : Addr} (hp : H p = none) : ¬ OwnA σ ρ p := fun ⟨i, s, d, h, m, e⟩ => by
  obtain ⟨a', e', r, z⟩ := E.own i s d h m
  rw [e] at e'; cases e'
  obtain ⟨u, hu⟩ := r.sm
  rw [hp] at hu; cases hu
theorem Stp.newH {O : Addr → Prop} {H Z : Hp} {p : Addr} {o : HO} (hp : H p = none) : Stp O H Z (upd H p o) Z :=
  ⟨.refl, fun b u h _ => by rw [upd_ne (ne_of_none h hp)]; exact h, fun _ _ h => .inl h⟩
theorem Stp.newZ {O : Addr → Prop} {H Z : Hp} {p : Addr} {o : HO} (hp : H p = none) (zp : Z p = none) : Stp O H Z (upd H p o) (upd Z p o) :=
  ⟨fun b u h => by rw [upd_ne (ne_of_none h zp)]; exact h, fun b u h _ => by rw [upd_ne (ne_of_none h hp)]; exact h, fun b u h => by
    by_cases hb : b = p
    · subst hb; exact .inr (.inl hp)
    · rw [upd_ne hb] at h; exact .inl h⟩
/-- an owned list becomes frozen (a fresh one, or a slot's) -/
theorem zfreeze {K : PySem.W.Frag} {H Z : Hp} {σ : St} {ρ : Ρ} (E : EnvOk K H Z σ ρ) {a : Addr} {xs : List V} (ha : H a = some (.lst xs)) (za : Z a = none) (hz : xs.length ≤ sizeLine) (no : ¬ OwnA σ ρ a) : EnvOk K H (upd Z a (.lst xs)) σ ρ := by
  refine E.step (fun b u h => ?_) (fun b u h => ?_) (fun b ys h => ?_) fun b hb => ⟨fun _ h => h, ?_⟩
  · rw [upd_ne (ne_of_none h za)]; exact h
  · by_cases hb : b = a
    · subst hb; rw [upd_same] at h; cases h; exact ha
    · rw [upd_ne hb] at h; exact E.zh b u h
  · by_cases hb : b = a
    · subst hb; rw [upd_same] at h
      cases h; exact hz
    · rw [upd_ne hb] at h; exact E.zl b ys h
  · have hba : b ≠ a := fun e => by subst e; exact no hb
    rw [upd_ne hba]
    obtain ⟨i, s, d, h, m, e⟩ := hb
    obtain ⟨a', e', r, z⟩ := E.own i s d h m
    rw [e] at e'; cases e'
    exact z

end Ev


set_option Elab.async false
set_option linter.all false
set_option maxRecDepth 100000
/-! Ev2: expressions. -/
namespace Ev
open PySem PySem.Spec L2
open PyProof.Rows hiding St

/-! ### the pure functions -/
def rs (ρ : Ρ) : RV → Option D
  | .fz d => some d
  | .fr _ => none
  | .bw i => (ρ[i]?).bind Slot.ct
def fFz (f : EF) : EF := fun ρ => match f ρ with
  | some (.fr (.list ds), ρ') => some (.fz (.list ds), ρ')
  | r => r
def RV.isArg : RV → Bool
  | .fr _ => false
  | _ => true
def fC (d : D) : EF := fun ρ => some (.fz d, ρ)
/-- a name, borrowed where it is owned -/
def fB (i : Nat) : EF := fun ρ => match ρ[i]? with
  | some (.val d) => some (.fz d, ρ)
  | some (.own _) => some (.bw i, ρ)
  | some (.io _) => some (.bw i, ρ)
  | _ => none
/-- a name; what it owns is frozen from here on -/
def fV (i : Nat) : EF := fun ρ => match ρ[i]? with
  | some (.val d) => some (.fz d, ρ)
  | some (.own (.list ds)) => some (.fz (.list ds), ρ.set i (.val (.list ds)))
  | _ => none
/-- a name; what it owns is moved out -/
def fM (i : Nat) : EF := fun ρ => match ρ[i]? with
  | some (.val d) => some (.fz d, ρ)
  | some (.own d) => some (.fr d, ρ.set i .no)
  | _ => none
def fBin (g : D → D → Option RV) (fa fb : EF) : EF := fun ρ => (fFz fa ρ).bind fun p => (fFz fb p.2).bind fun q => (rs q.2 p.1).bind fun d => (rs q.2 q.1).bind fun e => (g d e).bind fun r => some (r, q.2)
def fUn (g : D → Option RV) (fa : EF) : EF := fun ρ => (fFz fa ρ).bind fun p => (rs p.2 p.1).bind fun d => (g d).bind fun r => some (r, p.2)
def aNil : AF := fun ρ => some ([], ρ)
def aCons (f : EF) (fs : AF) : AF := fun ρ => (fFz f ρ).bind fun p => if p.1.isArg = true then (fs p.2).bind fun q => some (p.1 :: q.1, q.2) else none
def rsAll (ρ : Ρ) : List RV → Option (List D)
  | [] => some []
  | r :: t => (rs ρ r).bind fun d => (rsAll ρ t).bind fun ds => some (d :: ds)
def fzAll : List RV → Option (List D)
  | [] => some []
  | .fz d :: t => (fzAll t).bind fun ds => some (d :: ds)
  | _ => none
def fArgs (g : List D → Option RV) (fs : AF) : EF := fun ρ => (fs ρ).bind fun p => (rsAll p.2 p.1).bind fun ds => (g ds).bind fun r => some (r, p.2)
def fTup (fs : AF) : EF := fun ρ => (fs ρ).bind fun p => (fzAll p.1).bind fun ds => if ds.length ≤ sizeLine then some (.fz (.tuple ds), p.2) else none
def fLst (fs : AF) : EF := fun ρ => (fs ρ).bind fun p => (fzAll p.1).bind fun ds => if ds.length ≤ sizeLine then some (.fr (.list ds), p.2) else none
def fTst (f : EF) : TF := fun ρ => (f ρ).bind fun p => match p.1 with
  | .fz (.bool b) => some (b, p.2)
  | _ => none
def fAnd (f g : TF) : TF := fun ρ => (f ρ).bind fun p => if p.1 = true then g p.2 else some (false, p.2)
def fOr (f g : TF) : TF := fun ρ => (f ρ).bind fun p => if p.1 = true then some (true, p.2) else g p.2
def fNot (f : TF) : TF := fun ρ => (f ρ).bind fun p => some (!p.1, p.2)
def fBool (f : TF) : EF := fun ρ => (f ρ).bind fun p => some (.fz (.bool p.1), p.2)
def fIf (t : TF) (fa fb : EF) : EF := fun ρ => (t ρ).bind fun p => if p.1 = true then fa p.2 else fb p.2

section
variable {K : PySem.W.Frag} {H Z H' Z' : Hp} {σ : St} {ρ ρ' : Ρ}

theorem OwnA.ne {p a : Addr} (E : EnvOk K H Z σ ρ) (hp : H p = none) (h : OwnA σ ρ a) : a ≠ p := fun e => by
  subst e; exact E.notOwn hp h
theorem RvOk.toRa {v : V} {r : RV} (h : RvOk K H Z σ ρ v r) (n : r.isArg = true) : RaOk K Z σ v r := by
  cases h with
  | fz h => exact .fz h
  | fr => cases n
  | bw h => exact .bw h
theorem rs_isArg {r : RV} {d : D} (h : rs ρ r = some d) : r.isArg = true := by
  cases r <;> first | rfl | cases h
theorem RaOk.sh {v : V} {r : RV} {d : D} (E : EnvOk K H Z σ ρ) (h : RaOk K Z σ v r) (e : rs ρ r = some d) : Sh K H Z v d := by
  cases h with
  | fz h => cases e; exact .inl h
  | bw h =>
    rename_i i
    have e : (ρ[i]?).bind Slot.ct = some d := e
    cases q : ρ[i]? with
    | none => rw [q] at e; cases e
    | some s =>
      rw [q] at e
      cases s with
      | no => cases e
      | val d' =>
        cases e
        obtain ⟨v', e', r⟩ := E.val i _ q
        rw [h] at e'; cases e'
        exact .inl r
      | own d' =>
        cases e
        obtain ⟨a, e', r, z⟩ := E.own i _ _ q rfl
        rw [h] at e'; cases e'
        exact .inr ⟨a, rfl, r⟩
      | io d' =>
        cases e
        obtain ⟨a, e', r, z⟩ := E.own i _ _ q rfl
        rw [h] at e'; cases e'
        exact .inr ⟨a, rfl, r⟩
/-- a fresh list is frozen where it stands -/
theorem tE_fz {f : EF} {Q : VK} (h : tE K (fFz f) σ H Q) : tE K f σ H Q := by
  obtain ⟨Z, ρ, r, ρ', E, e, q⟩ := h
  unfold fFz at e
  split at e
  · rename_i ds ρ1 hf
    cases e
    refine ⟨Z, ρ, _, _, E, hf, fun v H' Z' P => ?_⟩
    have hrv := P.rv
    cases hrv with
    | fr hv ho hz no =>
      rename_i a
      cases ho with
      | lst h1 h2 h3 =>
        refine q v H' (upd Z' a (.lst _)) ⟨⟨fun b u hb => ?_, P.stp.fr, fun b u hb => ?_⟩, zfreeze P.env h1 hz h3 no, P.ow, ?_, fun _ _ z => nomatch z⟩
        · rw [upd_ne (ne_of_none (P.stp.zz b u hb) hz)]; exact P.stp.zz b u hb
        · by_cases hba : b = a
          · subst hba
            exact .inr (P.nw b _ rfl hv)
          · rw [upd_ne hba] at hb; exact P.stp.nz b u hb
        · subst hv
          refine .fz (.lst (.of upd_same) (DpAll.mono (fun b u hb => ?_) h2))
          rw [upd_ne (ne_of_none hb hz)]; exact hb
  · rename_i hf
    exact ⟨Z, ρ, r, ρ', E, e, q⟩
theorem Post.trans {σ : St} {ρ1 ρ2 : Ρ} {H1 Z1 H2 Z2 : Hp} {v : V} {r : RV} (s : Stp (OwnA σ ρ) H Z H1 Z1) (ow : Ow σ ρ ρ1) (P : Post K σ ρ1 ρ2 H1 Z1 H2 Z2 v r) : Post K σ ρ ρ2 H Z H2 Z2 v r where
  stp := s.trans (fun b h => .inl (ow.ow b h)) P.stp
  env := P.env
  ow := ow.trans P.ow
  rv := P.rv
  nw := fun a d e1 e2 => by
    rcases P.nw a d e1 e2 with h | h
    · cases e : H a with
      | none => exact .inl rfl
      | some u =>
        by_cases q : OwnA σ ρ a
        · exact .inr q
        · have := s.fr a u e q; rw [h] at this; cases this
    · exact .inr (ow.ow a h)

/-! ### an operation that only lays new things -/
structure Alc (K : PySem.W.Frag) (H Z H' Z' : Hp) (v : V) (r : RV) : Prop where
  hh : Hsub H H'
  zz : Hsub Z Z'
  zh : Hsub Z' H'
  zl : ∀ b u, Z' b = some u → ZG u
  nz : ∀ b o, Z' b = some o → Z b = some o ∨ H b = none
  rv : match r with
    | .fz d => Dp K Z' v d
    | .fr d => ∃ a, v = .ref a ∧ Own K H' Z' a d ∧ H a = none ∧ Z' a = none
    | .bw _ => False
def ZL (Z : Hp) : Prop := ∀ b u, Z b = some u → ZG u
theorem Alc.same {v : V} {d : D} (zh : Hsub Z H) (zl : ZL Z) (h : Dp K Z v d) : Alc K H Z H Z v (.fz d) := ⟨.refl, .refl, zh, zl, fun _ _ h => .inl h, h⟩
theorem upd_hsub {p : Addr} {o : HO} (hp : H p = none) : Hsub H (upd H p o) := fun b u h => by rw [upd_ne (ne_of_none h hp)]; exact h
theorem zn (zh : Hsub Z H) {p : Addr} (hp : H p = none) : Z p = none := by
  cases e : Z p with
  | none => rfl
  | some u => have := zh p u e; rw [hp] at this; cases this
theorem Alc.newTup {p : Addr} {o : Obj} {xs : List V} {ds : List D} (zh : Hsub Z H) (zl : ZL Z) (hp : H p = none) (ho : o.dict = none) (hz : xs.length ≤ sizeLine) (h : DpAll K Z xs ds) : Alc K H Z (upd H p (.frz o (.tup xs))) (upd Z p (.frz o (.tup xs))) (.ref p) (.fz (.tuple ds)) where
  hh := upd_hsub hp
  zz := upd_hsub (zn zh hp)
  zh := fun b u h => by
    by_cases hb : b = p
    · subst hb; rw [upd_same] at h ⊢; exact h
    · rw [upd_ne hb] at h ⊢; exact zh b u h
  zl := fun b ys h => by
    by_cases hb : b = p
    · subst hb; rw [upd_same] at h
      cases h; exact ⟨ho, hz⟩
    · rw [upd_ne hb] at h; exact zl b ys h
  nz := fun b u h => by
    by_cases hb : b = p
    · subst hb; exact .inr hp
    · rw [upd_ne hb] at h; exact .inl h
  rv := .tup ⟨o, upd_same⟩ (DpAll.mono (upd_hsub (zn zh hp)) h)
theorem Alc.newLst {p : Addr} {xs : List V} {ds : List D} (zh : Hsub Z H) (zl : ZL Z) (hp : H p = none) (hz : xs.length ≤ sizeLine) (h : DpAll K Z xs ds) : Alc K H Z (upd H p (.lst xs)) Z (.ref p) (.fr (.list ds)) where
  hh := upd_hsub hp
  zz := .refl
  zh := zh.trans (upd_hsub hp)
  zl := zl
  nz := fun b u h => .inl h
  rv := ⟨p, rfl, .lst upd_same h hz, hp, zn zh hp⟩
theorem Alc.stp {O : Addr → Prop} {v : V} {r : RV} (a : Alc K H Z H' Z' v r) : Stp O H Z H' Z' := ⟨a.zz, fun b u h _ => a.hh b u h, fun b u h => (a.nz b u h).imp id .inl⟩
theorem Alc.env {v : V} {r : RV} (E : EnvOk K H Z σ ρ) (a : Alc K H Z H' Z' v r) : EnvOk K H' Z' σ ρ :=
  E.step a.zz a.zh a.zl fun b hb => by
    obtain ⟨i, s, d, h, m, e⟩ := hb
    obtain ⟨b', e', r', z⟩ := E.own i s d h m
    rw [e] at e'; cases e'
    exact ⟨a.hh b, (Alc.stp (O := fun _ => False) a).nonZ z r'.sm id⟩
theorem Alc.post {v : V} {r : RV} (E : EnvOk K H Z σ ρ) (a : Alc K H Z H' Z' v r) : Post K σ ρ ρ H Z H' Z' v r where
  stp := a.stp
  env := a.env E
  ow := .refl
  rv := by
    have h := a.rv
    cases r with
    | fz d => exact .fz h
    | fr d =>
      obtain ⟨p, e, o, hp, zp⟩ := h
      exact .fr e o zp (E.notOwn hp)
    | bw i => exact h.elim
  nw := fun b d e1 e2 => by
    have h := a.rv
    subst e1
    obtain ⟨p, e, o, hp, zp⟩ := h
    rw [e] at e2; cases e2
    exact .inl hp

/-- a new tuple, known to its object -/
def tTupF (t : TA) : TE := fun σ H Q => t σ H fun xs H1 => xs.length ≤ sizeLine ∧ ∀ p o, H1 p = none → o.dict = none → Q (.ref p) (upd H1 p (.frz o (.tup xs)))
theorem tupF_ok {P : Program} {w : World} {H : Hp} {h : Heap} {p : Addr} {xs : List V} {us : List Value} (z : xs.length ≤ sizeLine) (r : Vals xs us) (e : h.get? p = some { cls := .type "tuple", data := .seq us.toArray }) : ObjOk P w H h p (.frz { cls := .type "tuple", data := .seq us.toArray } (.tup xs)) :=
  ⟨e, z, us, r, ⟨_, e, rfl, 0, rfl⟩⟩
theorem pe_tupF {X : Cx} {es : List Expr} {t : TA} {pos : Pos} {x1} (h : PA X es t) : PE X (.Tuple es x1 pos) (tTupF t) := by
  refine ⟨fun pins s σ H Q I hq => ?_⟩
  refine wpAny_Tuple_spliced (thn (h.run pos pins s σ H _ I hq) fun us s1 ⟨xs, H1, I1, r, z, q⟩ => ⟨by rw [← r.length]; exact z, ?_⟩)
  have hf : H1 s1.heap.objs.size = none := I1.hok.fresh (Nat.le_refl _)
  refine ⟨.ref s1.heap.objs.size, upd H1 s1.heap.objs.size (.frz { cls := .type "tuple", data := .seq us.toArray } (.tup xs)), I1.laid (t' := s1.toks) (fun b u e => Heap.get?_push_of_some _ e) (Nat.le_refl _) ?_, rfl, q _ _ hf rfl⟩
  exact tupF_ok z r (Heap.get?_push_size _ rfl)
/-! ### readings of operations on data -/
def rOp2 (K : PySem.W.Frag) (g : D → D → Option RV) : R2 := fun x y H Q => ∃ Z d e r, Hsub Z H ∧ ZL Z ∧ Sh K H Z x d ∧ Sh K H Z y e ∧ g d e = some r ∧ ∀ v H' Z', Alc K H Z H' Z' v r → Q v H'
def rOp1 (K : PySem.W.Frag) (g : D → Option RV) : V → Hp → VK → Prop := fun x H Q => ∃ Z d r, Hsub Z H ∧ ZL Z ∧ Sh K H Z x d ∧ g d = some r ∧ ∀ v H' Z', Alc K H Z H' Z' v r → Q v H'
inductive ShAll (K : PySem.W.Frag) (H Z : Hp) : List V → List D → Prop
  | nil : ShAll K H Z [] []
  | cons {v vs d ds} : Sh K H Z v d → ShAll K H Z vs ds → ShAll K H Z (v :: vs) (d :: ds)
def rOpN (K : PySem.W.Frag) (g : List D → Option RV) : List V → Hp → VK → Prop := fun xs H Q => ∃ Z ds r, Hsub Z H ∧ ZL Z ∧ ShAll K H Z xs ds ∧ g ds = some r ∧ ∀ v H' Z', Alc K H Z H' Z' v r → Q v H'

theorem bs {α β : Type} {o : Option α} {f : α → Option β} {b : β} (h : o.bind f = some b) : ∃ a, o = some a ∧ f a = some b := Option.bind_eq_some_iff.mp h

theorem tE_bin {g : D → D → Option RV} {fa fb : EF} {Q : VK} (h : tE K (fBin g fa fb) σ H Q) : tOp (rOp2 K g) (tE K fa) (tE K fb) σ H Q := by
  obtain ⟨Z, ρ, r, ρ', E, e, q⟩ := h
  obtain ⟨⟨x, ρ1⟩, e1, e⟩ := bs e
  obtain ⟨⟨y, ρ2⟩, e2, e⟩ := bs e
  obtain ⟨d, e3, e⟩ := bs e
  obtain ⟨d', e4, e⟩ := bs e
  obtain ⟨r', e5, e⟩ := bs e
  cases e
  refine tE_fz ⟨Z, ρ, x, ρ1, E, e1, fun v H1 Z1 P1 => tE_fz ⟨Z1, ρ1, y, ρ2, P1.env, e2, fun u H2 Z2 P2 => ?_⟩⟩
  have h1 := (P1.rv.toRa (rs_isArg e3)).mono P2.stp.zz
  have h2 := P2.rv.toRa (rs_isArg e4)
  refine ⟨Z2, d, d', _, P2.env.zh, P2.env.zl, h1.sh P2.env e3, h2.sh P2.env e4, e5, fun w H3 Z3 A => q w H3 Z3 ?_⟩
  exact (P2.env |> fun E2 => Post.trans (P1.stp.trans (fun b h => .inl (P1.ow.ow b h)) P2.stp) (P1.ow.trans P2.ow) (A.post E2))
theorem tE_un {g : D → Option RV} {fa : EF} {Q : VK} (h : tE K (fUn g fa) σ H Q) : tUn (rOp1 K g) (tE K fa) σ H Q := by
  obtain ⟨Z, ρ, r, ρ', E, e, q⟩ := h
  obtain ⟨⟨x, ρ1⟩, e1, e⟩ := bs e
  obtain ⟨d, e3, e⟩ := bs e
  obtain ⟨r', e5, e⟩ := bs e
  cases e
  refine tE_fz ⟨Z, ρ, x, ρ1, E, e1, fun v H1 Z1 P1 => ?_⟩
  refine ⟨Z1, d, _, P1.env.zh, P1.env.zl, (P1.rv.toRa (rs_isArg e3)).sh P1.env e3, e5, fun w H3 Z3 A => q w H3 Z3 ?_⟩
  exact Post.trans P1.stp P1.ow (A.post P1.env)
theorem RasOk.sh {vs : List V} {rs' : List RV} {ds : List D} (E : EnvOk K H Z σ ρ) (h : RasOk K Z σ vs rs') (e : rsAll ρ rs' = some ds) : ShAll K H Z vs ds := by
  induction h generalizing ds with
  | nil => cases e; exact .nil
  | cons h1 h2 ih =>
    obtain ⟨d, e1, e⟩ := bs e
    obtain ⟨ds', e2, e⟩ := bs e
    cases e
    exact .cons (h1.sh E e1) (ih e2)
theorem tE_args {g : List D → Option RV} {fs : AF} {Q : VK} (h : tE K (fArgs g fs) σ H Q) : tCB (rOpN K g) (tA K fs) σ H Q := by
  obtain ⟨Z, ρ, r, ρ', E, e, q⟩ := h
  obtain ⟨⟨xs, ρ1⟩, e1, e⟩ := bs e
  obtain ⟨ds, e3, e⟩ := bs e
  obtain ⟨r', e5, e⟩ := bs e
  cases e
  refine ⟨Z, ρ, xs, ρ1, E, e1, fun vs H1 Z1 s1 E1 ow1 ra => ?_⟩
  exact ⟨Z1, ds, _, E1.zh, E1.zl, ra.sh E1 e3, e5, fun w H3 Z3 A => q w H3 Z3 (Post.trans s1 ow1 (A.post E1))⟩
theorem tA_cons {f : EF} {fs : AF} {Q : List V → Hp → Prop} (h : tA K (aCons f fs) σ H Q) : tCons (tE K f) (tA K fs) σ H Q := by
  obtain ⟨Z, ρ, r, ρ', E, e, q⟩ := h
  obtain ⟨⟨x, ρ1⟩, e1, e⟩ := bs e
  split at e
  · rename_i hx
    obtain ⟨⟨xs, ρ2⟩, e2, e⟩ := bs e
    cases e
    refine tE_fz ⟨Z, ρ, x, ρ1, E, e1, fun v H1 Z1 P1 => ⟨Z1, ρ1, xs, _, P1.env, e2, fun vs H2 Z2 s2 E2 ow2 ra => q _ H2 Z2 (P1.stp.trans (fun b h => .inl (P1.ow.ow b h)) s2) E2 (P1.ow.trans ow2) (.cons ((P1.rv.toRa hx).mono s2.zz) ra)⟩⟩
  · cases e
theorem fzAll_dp {vs : List V} {rs' : List RV} {ds : List D} (h : RasOk K Z σ vs rs') (e : fzAll rs' = some ds) : DpAll K Z vs ds := by
  induction h generalizing ds with
  | nil => cases e; exact .nil
  | @cons v vs r rs' h1 h2 ih =>
    cases r with
    | fz d =>
      obtain ⟨ds', e2, e⟩ := bs e
      cases e
      cases h1 with
      | fz h1 => exact .cons h1 (ih e2)
    | fr d => cases e
    | bw i => cases e
theorem tE_tup {fs : AF} {Q : VK} (h : tE K (fTup fs) σ H Q) : tTupF (tA K fs) σ H Q := by
  obtain ⟨Z, ρ, r, ρ', E, e, q⟩ := h
  obtain ⟨⟨xs, ρ1⟩, e1, e⟩ := bs e
  obtain ⟨ds, e3, e⟩ := bs e
  split at e
  · rename_i hl
    cases e
    refine ⟨Z, ρ, xs, _, E, e1, fun vs H1 Z1 s1 E1 ow1 ra => ?_⟩
    have hd := fzAll_dp ra e3
    have hz : vs.length ≤ sizeLine := by rw [hd.length]; exact hl
    exact ⟨hz, fun p o hp ho => q _ _ _ (Post.trans s1 ow1 ((Alc.newTup E1.zh E1.zl hp ho hz hd).post E1))⟩
  · cases e
theorem tE_lst {fs : AF} {Q : VK} (h : tE K (fLst fs) σ H Q) : tLst (tA K fs) σ H Q := by
  obtain ⟨Z, ρ, r, ρ', E, e, q⟩ := h
  obtain ⟨⟨xs, ρ1⟩, e1, e⟩ := bs e
  obtain ⟨ds, e3, e⟩ := bs e
  split at e
  · rename_i hl
    cases e
    refine ⟨Z, ρ, xs, _, E, e1, fun vs H1 Z1 s1 E1 ow1 ra => ?_⟩
    have hd := fzAll_dp ra e3
    have hz : vs.length ≤ sizeLine := by rw [hd.length]; exact hl
    exact ⟨hz, fun p hp => q _ _ _ (Post.trans s1 ow1 ((Alc.newLst E1.zh E1.zl hp hz hd).post E1))⟩
  · cases e
theorem tT_tst {f : EF} {Q : Bool → Hp → Prop} (h : tT K (fTst f) σ H Q) : tE K f σ H fun x H1 => ∃ c, x = .bl c ∧ Q c H1 := by
  obtain ⟨Z, ρ, b, ρ', E, e, q⟩ := h
  obtain ⟨⟨x, ρ1⟩, e1, e⟩ := bs e
  refine ⟨Z, ρ, x, ρ1, E, e1, fun v H1 Z1 P => ?_⟩
  have hrv := P.rv
  cases hrv with
  | fz hd =>
    cases hd with
    | bl b' => cases e; exact ⟨_, rfl, q H1 Z1 P.stp P.env P.ow⟩
    | _ => cases e
  | fr => cases e
  | bw => cases e
theorem tT_bind {f g : TF} {Q : Bool → Hp → Prop} {R : Bool → St → Hp → (Bool → Hp → Prop) → Prop} {k : Bool × Ρ → Option (Bool × Ρ)} (h : tT K (fun ρ => (f ρ).bind k) σ H Q)
    (hk : ∀ (c : Bool) (H1 Z1 : Hp) (ρ1 : Ρ) (b : Bool) (ρ2 : Ρ), EnvOk K H1 Z1 σ ρ1 → k (c, ρ1) = some (b, ρ2) → ∀ Q1, (∀ H' Z', Stp (OwnA σ ρ1) H1 Z1 H' Z' → EnvOk K H' Z' σ ρ2 → Ow σ ρ1 ρ2 → Q1 b H') → R c σ H1 Q1) :
    tT K f σ H fun c H1 => R c σ H1 Q := by
  obtain ⟨Z, ρ, b, ρ', E, e, q⟩ := h
  obtain ⟨⟨c, ρ1⟩, e1, e⟩ := bs e
  exact ⟨Z, ρ, c, ρ1, E, e1, fun H1 Z1 s1 E1 ow1 => hk c H1 Z1 ρ1 b ρ' E1 e Q fun H2 Z2 s2 E2 ow2 => q H2 Z2 (s1.trans (fun b h => .inl (ow1.ow b h)) s2) E2 (ow1.trans ow2)⟩
theorem tT_and {f g : TF} {Q : Bool → Hp → Prop} (h : tT K (fAnd f g) σ H Q) : tAnd (tT K f) (tT K g) σ H Q := by
  refine tT_bind (g := g) (R := fun c σ H1 Q => if c = true then tT K g σ H1 Q else Q false H1) h fun c H1 Z1 ρ1 b ρ2 E1 e Q1 q => ?_
  cases c with
  | true => rw [if_pos rfl]; exact ⟨Z1, ρ1, b, ρ2, E1, e, q⟩
  | false =>
    rw [if_neg Bool.false_ne_true]
    dsimp only at e
    rw [if_neg Bool.false_ne_true] at e
    cases e
    exact q H1 Z1 .refl E1 .refl
theorem tT_or {f g : TF} {Q : Bool → Hp → Prop} (h : tT K (fOr f g) σ H Q) : tOr (tT K f) (tT K g) σ H Q := by
  refine tT_bind (g := g) (R := fun c σ H1 Q => if c = true then Q true H1 else tT K g σ H1 Q) h fun c H1 Z1 ρ1 b ρ2 E1 e Q1 q => ?_
  cases c with
  | false => rw [if_neg Bool.false_ne_true]; exact ⟨Z1, ρ1, b, ρ2, E1, e, q⟩
  | true =>
    rw [if_pos rfl]
    dsimp only at e
    rw [if_pos rfl] at e
    cases e
    exact q H1 Z1 .refl E1 .refl
theorem tT_not {f : TF} {Q : Bool → Hp → Prop} (h : tT K (fNot f) σ H Q) : tNot (tT K f) σ H Q := by
  refine tT_bind (g := f) (R := fun c σ H1 Q => Q (!c) H1) h fun c H1 Z1 ρ1 b ρ2 E1 e Q1 q => ?_
  cases e
  exact q H1 Z1 .refl E1 .refl
theorem tT_bool {f : TF} {Q : VK} (h : tE K (fBool f) σ H Q) : tT K f σ H fun b H1 => Q (.bl b) H1 := by
  obtain ⟨Z, ρ, r, ρ', E, e, q⟩ := h
  obtain ⟨⟨c, ρ1⟩, e1, e⟩ := bs e
  cases e
  exact ⟨Z, ρ, c, _, E, e1, fun H1 Z1 s1 E1 ow1 => q _ H1 Z1 ⟨s1, E1, ow1, .fz (.bl _), fun _ _ z => nomatch z⟩⟩
theorem tE_if {t : TF} {fa fb : EF} {Q : VK} (h : tE K (fIf t fa fb) σ H Q) : tIf (tT K t) (tE K fa) (tE K fb) σ H Q := by
  obtain ⟨Z, ρ, r, ρ', E, e, q⟩ := h
  obtain ⟨⟨c, ρ1⟩, e1, e⟩ := bs e
  refine ⟨Z, ρ, c, ρ1, E, e1, fun H1 Z1 s1 E1 ow1 => ?_⟩
  cases c with
  | true =>
    rw [if_pos rfl]
    exact ⟨Z1, ρ1, r, ρ', E1, e, fun v H2 Z2 P => q v H2 Z2 (Post.trans s1 ow1 P)⟩
  | false =>
    rw [if_neg Bool.false_ne_true]
    exact ⟨Z1, ρ1, r, ρ', E1, e, fun v H2 Z2 P => q v H2 Z2 (Post.trans s1 ow1 P)⟩
end

/-! ### the rules -/
section
variable {X : Cx} {a b : Expr} {fa fb : EF} {pos : Pos}
theorem ev_c {d : D} {v : V} (h : PE X a (tC v)) (hd : ∀ Z, Dp X.K Z v d) : EvE X a (fC d) := ⟨peImp h fun σ H Q ⟨Z, ρ, r, ρ', E, e, q⟩ => by
  cases e
  exact q v H Z ⟨.refl, E, .refl, .fz (hd Z), fun _ _ z => nomatch z⟩⟩
theorem ev_int {i j pos} : EvE X (.Constant (.int i) j pos) (fC (.int i)) := ev_c pe_int fun _ => .int i
theorem ev_bl {b j pos} : EvE X (.Constant (.bool b) j pos) (fC (.bool b)) := ev_c pe_bl fun _ => .bl b
theorem ev_non {j pos} : EvE X (.Constant .none j pos) (fC .none) := ev_c pe_non fun _ => .non
theorem ev_str {x j pos} : EvE X (.Constant (.str x) j pos) (fC (.str x)) := ev_c pe_str fun _ => .str x
theorem ev_b {i : Nat} (h : PE X a (tVar i)) : EvE X a (fB i) := ⟨peImp h fun σ H Q ⟨Z, ρ, r, ρ', E, e, q⟩ => by
  unfold fB at e
  split at e
  · rename_i d hs
    cases e
    obtain ⟨v, e', hd⟩ := E.val i d hs
    exact ⟨v, e', q v H Z ⟨.refl, E, .refl, .fz hd, fun _ _ z => nomatch z⟩⟩
  · rename_i d hs
    cases e
    obtain ⟨a, e', ho, z⟩ := E.own i _ d hs rfl
    exact ⟨_, e', q _ H Z ⟨.refl, E, .refl, .bw e', fun _ _ z => nomatch z⟩⟩
  · rename_i d hs
    cases e
    obtain ⟨a, e', ho, z⟩ := E.own i _ d hs rfl
    exact ⟨_, e', q _ H Z ⟨.refl, E, .refl, .bw e', fun _ _ z => nomatch z⟩⟩
  · cases e⟩
/-- an owned slot is given up -/
theorem OwnA.sub {σ : St} {ρ : Ρ} {i : Nat} {s : Slot} (hs : s.mut = none) {a : Addr} (h : OwnA σ (ρ.set i s) a) : OwnA σ ρ a := by
  obtain ⟨j, t, d, e, m, e2⟩ := h
  rcases getSet e with ⟨rfl, rfl, _⟩ | ⟨_, e⟩
  · rw [hs] at m; cases m
  · exact ⟨j, t, d, e, m, e2⟩
theorem Ow.set {σ : St} {ρ : Ρ} {i : Nat} {s : Slot} (hs : s.mut = none) : Ow σ ρ (ρ.set i s) := ⟨fun _ h => h.sub hs, fun j d h => by
  rcases getSet h with ⟨rfl, z, _⟩ | ⟨_, h⟩
  · subst z; cases hs
  · exact ⟨d, h⟩⟩
theorem OwnA.out {K : PySem.W.Frag} {H Z : Hp} {σ : St} {ρ : Ρ} {i : Nat} {s s0 : Slot} {d0 : D} {a : Addr} (E : EnvOk K H Z σ ρ) (h0 : ρ[i]? = some s0) (m0 : s0.mut = some d0) (e0 : σ[i]? = some (some (.ref a))) (hs : s.mut = none) : ¬ OwnA σ (ρ.set i s) a := fun h => by
  obtain ⟨j, t, d, e, m, e2⟩ := h
  rcases getSet e with ⟨rfl, rfl, _⟩ | ⟨n, e⟩
  · rw [hs] at m; cases m
  · exact n (E.sep j i t s0 d d0 a e m h0 m0 e2 e0)
theorem EnvOk.giveup {K : PySem.W.Frag} {H Z : Hp} {σ : St} {ρ : Ρ} {i : Nat} (E : EnvOk K H Z σ ρ) : EnvOk K H Z σ (ρ.set i .no) where
  len := by rw [List.length_set]; exact E.len
  zh := E.zh
  zl := E.zl
  val := fun j d h => by
    rcases getSet h with ⟨_, z, _⟩ | ⟨_, h⟩
    · cases z
    · exact E.val j d h
  own := fun j s d h m => by
    rcases getSet h with ⟨_, z, _⟩ | ⟨_, h⟩
    · subst z; cases m
    · exact E.own j s d h m
  sep := fun j k s t d e a h1 m1 h2 m2 => by
    rcases getSet h1 with ⟨_, z, _⟩ | ⟨_, h1⟩
    · subst z; cases m1
    · rcases getSet h2 with ⟨_, z, _⟩ | ⟨_, h2⟩
      · subst z; cases m2
      · exact E.sep j k s t d e a h1 m1 h2 m2
theorem EnvOk.setVal {K : PySem.W.Frag} {H Z : Hp} {σ : St} {ρ : Ρ} {i : Nat} {d : D} {v : V} (E : EnvOk K H Z σ ρ) (e : σ[i]? = some (some v)) (hd : Dp K Z v d) : EnvOk K H Z σ (ρ.set i (.val d)) where
  len := by rw [List.length_set]; exact E.len
  zh := E.zh
  zl := E.zl
  val := fun j d h => by
    rcases getSet h with ⟨rfl, z, _⟩ | ⟨_, h⟩
    · cases z; exact ⟨v, e, hd⟩
    · exact E.val j d h
  own := fun j s d h m => by
    rcases getSet h with ⟨_, z, _⟩ | ⟨_, h⟩
    · subst z; cases m
    · exact E.own j s d h m
  sep := fun j k s t d e a h1 m1 h2 m2 => by
    rcases getSet h1 with ⟨_, z, _⟩ | ⟨_, h1⟩
    · subst z; cases m1
    · rcases getSet h2 with ⟨_, z, _⟩ | ⟨_, h2⟩
      · subst z; cases m2
      · exact E.sep j k s t d e a h1 m1 h2 m2
theorem ev_m {i : Nat} (h : PE X a (tVar i)) : EvE X a (fM i) := ⟨peImp h fun σ H Q ⟨Z, ρ, r, ρ', E, e, q⟩ => by
  unfold fM at e
  split at e
  · rename_i d hs
    cases e
    obtain ⟨v, e', hd⟩ := E.val i d hs
    exact ⟨v, e', q v H Z ⟨.refl, E, .refl, .fz hd, fun _ _ z => nomatch z⟩⟩
  · rename_i d hs
    cases e
    obtain ⟨a, e', ho, z⟩ := E.own i _ d hs rfl
    refine ⟨_, e', q _ H Z ⟨.refl, E.giveup, .set rfl, .fr rfl ho z (OwnA.out E hs rfl e' rfl), fun b _ _ e2 => ?_⟩⟩
    cases e2
    exact .inr ⟨i, _, d, hs, rfl, e'⟩
  · cases e⟩
theorem fV_eq (i : Nat) (ρ : Ρ) (r : RV × Ρ) (h : fV i ρ = some r) : (∃ d, ρ[i]? = some (.val d) ∧ r = (.fz d, ρ)) ∨ ∃ ds, ρ[i]? = some (.own (.list ds)) ∧ r = (.fz (.list ds), ρ.set i (.val (.list ds))) := by
  unfold fV at h
  split at h
  · rename_i d hs; cases h; exact .inl ⟨d, hs, rfl⟩
  · rename_i ds hs; cases h; exact .inr ⟨ds, hs, rfl⟩
  · cases h
theorem ev_v {i : Nat} (h : PE X a (tVar i)) : EvE X a (fV i) := ⟨peImp h fun σ H Q ⟨Z, ρ, r, ρ', E, e, q⟩ => by
  rcases fV_eq i ρ _ e with ⟨d, hs, e⟩ | ⟨ds, hs, e⟩
  · cases e
    obtain ⟨v, e', hd⟩ := E.val i d hs
    exact ⟨v, e', q v H Z ⟨.refl, E, .refl, .fz hd, fun _ _ z => nomatch z⟩⟩
  · cases e
    obtain ⟨a, e', ho, z⟩ := E.own i _ _ hs rfl
    cases ho with
    | @lst xs _ h1 h2 h3 =>
      have zz : Hsub Z (upd Z a (.lst xs)) := upd_hsub z
      have E1 := zfreeze (E.giveup (i := i)) h1 z h3 (OwnA.out E hs rfl e' rfl)
      have hd : Dp X.K (upd Z a (.lst xs)) (.ref a) (.list ds) := .lst (.of upd_same) (DpAll.mono zz h2)
      have E2 := E1.setVal e' hd
      rw [List.set_set] at E2
      refine ⟨_, e', q _ H (upd Z a (.lst xs)) ⟨⟨zz, fun _ _ h _ => h, fun b u hb => ?_⟩, E2, .set rfl, .fz hd, fun _ _ z => nomatch z⟩⟩
      by_cases hba : b = a
      · subst hba; exact .inr (.inr ⟨i, _, _, hs, rfl, e'⟩)
      · rw [upd_ne hba] at hb; exact .inl hb⟩

theorem ev_bin {op : Operator} {g : D → D → Option RV} (ho : OpR X (binaryOp op) (rOp2 X.K g)) (ha : EvE X a fa) (hb : EvE X b fb) : EvE X (.BinOp a op b pos) (fBin g fa fb) := ⟨peImp (pe_op ho ha.pe hb.pe) fun σ H Q h => tE_bin h⟩
theorem ev_un {op : UnaryOp} {g : D → Option RV} (ho : UnR X (unaryOp op) (rOp1 X.K g)) (ha : EvE X a fa) : EvE X (.UnaryOp op a pos) (fUn g fa) := ⟨peImp (pe_un ho ha.pe) fun σ H Q h => tE_un h⟩
theorem ev_cmp {op : CmpOp} {g : D → D → Option RV} (ho : OpR X (compareOp op) (rOp2 X.K g)) (ha : EvE X a fa) (hb : EvE X b fb) (hm : behindInMarks op b = false) : EvE X (.Compare a [op] [b] pos) (fBin g fa fb) := ⟨peImp (pe_cmpR ho ha.pe hb.pe hm) fun σ H Q h => tE_bin h⟩
theorem et_cmp {op : CmpOp} {g : D → D → Option RV} (ho : OpR X (compareOp op) (rOp2 X.K g)) (ha : EvE X a fa) (hb : EvE X b fb) (hm : behindInMarks op b = false) : EvT X (.Compare a [op] [b] pos) (fTst (fBin g fa fb)) :=
  ⟨ptImp (pt_cmpR ho ha.pe hb.pe hm) fun σ H Q h => tE_bin (tT_tst h)⟩
theorem ev_ix {g : D → D → Option RV} (ho : IxR X (rOp2 X.K g)) (ha : EvE X a fa) (hb : EvE X b fb) (hs : PlainIx b) : EvE X (.Subscript a b pos) (fBin g fa fb) := ⟨peImp (pe_ix ho ha.pe hb.pe hs) fun σ H Q h => tE_bin h⟩
theorem ea_nil : EvA X [] aNil := ⟨paImp pa_nil fun σ H Q ⟨Z, ρ, r, ρ', E, e, q⟩ => by cases e; exact q [] H Z .refl E .refl .nil⟩
theorem ea_cons {es : List Expr} {fs : AF} (ha : EvE X a fa) (hr : EvA X es fs) (hs : starEach (a :: es) X.env = (false, eval a X.env) :: starEach es X.env := by rfl) : EvA X (a :: es) (aCons fa fs) := ⟨paImp (pa_cons ha.pe hr.pa hs) fun σ H Q h => tA_cons h⟩
theorem ev_tup {es : List Expr} {fs : AF} {x1} (ha : EvA X es fs) : EvE X (.Tuple es x1 pos) (fTup fs) := ⟨peImp (pe_tupF ha.pa) fun σ H Q h => tE_tup h⟩
theorem ev_lst {es : List Expr} {fs : AF} (ha : EvA X es fs) : EvE X (.List es pos) (fLst fs) := ⟨peImp (pe_lst ha.pa) fun σ H Q h => tE_lst h⟩
theorem ev_blt {id : String} {g : List D → Option RV} {es : List Expr} {fs : AF} {x : Str} {p : Pos} (hc : CallR X (.builtin id) (rOpN X.K g)) (hg : Gl X x) (hm : X.mg x = none) (hv : bootBuiltins x = some (.builtin id)) (ha : EvA X (a :: es) fs)
    (hn : x ≠ "__name__" := by decide) (hdb : (x == ("__debug__" : Str)) = false := by decide) (he : starEach (a :: es) X.env = (false, eval a X.env) :: starEach es X.env := by rfl) (hpl : (backTo pos (starEach es X.env)).any (·.1) = false := by rfl) :
    EvE X (.Call (.Name x p) (a :: es) [] pos) (fArgs g fs) := ⟨peImp (pe_callB hc hg hm hv ha.pa hn hdb he hpl) fun σ H Q h => tE_args h⟩
theorem ev_bty {id : String} {g : List D → Option RV} {es : List Expr} {fs : AF} {x : Str} {p : Pos} (hc : CallR X (.type id) (rOpN X.K g)) (hg : Gl X x) (hm : X.mg x = none) (hv : bootBuiltins x = some (.type id)) (ha : EvA X (a :: es) fs)
    (hn : x ≠ "__name__" := by decide) (hdb : (x == ("__debug__" : Str)) = false := by decide) (he : starEach (a :: es) X.env = (false, eval a X.env) :: starEach es X.env := by rfl) (hpl : (backTo pos (starEach es X.env)).any (·.1) = false := by rfl) :
    EvE X (.Call (.Name x p) (a :: es) [] pos) (fArgs g fs) := ⟨peImp (pe_callTy hc hg hm hv ha.pa hn hdb he hpl) fun σ H Q h => tE_args h⟩
theorem et_val {e : Expr} {f : EF} (h : EvE X e f) (he : ∀ whole, isTrue e X.env whole = (do let v ← whole; standAt e.pos; holding [v] (truthy v)) := by intro _; rfl) : EvT X e (fTst f) := ⟨ptImp (pt_val h.pe he) fun σ H Q h => tT_tst h⟩
theorem et_not {f : TF} (h : EvT X a f) : EvT X (.UnaryOp .Not a pos) (fNot f) := ⟨ptImp (pt_not h.pt) fun σ H Q h => tT_not h⟩
theorem ew_t {e : Expr} {f : TF} (h : EvW X e f) : EvT X e f := ⟨h.pw.pt⟩
theorem ew_and1 {f : TF} (h : EvT X a f) : EvW X (.BoolOp .And [a] pos) f := ⟨pw_and1 h.pt⟩
theorem ew_or1 {f : TF} (h : EvT X a f) : EvW X (.BoolOp .Or [a] pos) f := ⟨pw_or1 h.pt⟩
theorem ew_and {f g : TF} {rest : List Expr} (h : EvT X a f) (k : EvW X (.BoolOp .And (b :: rest) pos) g) : EvW X (.BoolOp .And (a :: b :: rest) pos) (fAnd f g) := ⟨pwImp (pw_and h.pt k.pw) fun σ H Q h => tT_and h⟩
theorem ew_or {f g : TF} {rest : List Expr} (h : EvT X a f) (k : EvW X (.BoolOp .Or (b :: rest) pos) g) : EvW X (.BoolOp .Or (a :: b :: rest) pos) (fOr f g) := ⟨pwImp (pw_or h.pt k.pw) fun σ H Q h => tT_or h⟩
theorem ev_bool1 {op} {f : EF} (h : EvE X a f) : EvE X (.BoolOp op [a] pos) (fBool (fTst f)) := ⟨peImp (pe_one h.pe) fun σ H Q h => by
  have h1 := tT_tst (tT_bool h)
  refine h1.imp fun Z h => h.imp fun ρ h => h.imp fun r h => h.imp fun ρ' h => ⟨h.1, h.2.1, fun v H' Z' P => ?_⟩
  obtain ⟨c, e, q⟩ := h.2.2 v H' Z' P
  subst e; exact q⟩
theorem ev_and {rest : List Expr} {g : TF} (h : EvE X a fa) (k : EvE X (.BoolOp .And (b :: rest) pos) (fBool g)) : EvE X (.BoolOp .And (a :: b :: rest) pos) (fBool (fAnd (fTst fa) g)) := ⟨peImp (pe_and h.pe k.pe) fun σ H Q h => by
  have h1 := tT_tst (tT_and (tT_bool h))
  refine h1.imp fun Z h => h.imp fun ρ h => h.imp fun r h => h.imp fun ρ' h => ⟨h.1, h.2.1, fun v H' Z' P => ?_⟩
  obtain ⟨c, e, q⟩ := h.2.2 v H' Z' P
  refine ⟨c, e, ?_⟩
  cases c with
  | true =>
    rw [if_pos rfl] at q ⊢
    obtain ⟨Z, ρ, b, ρ', E, e, q⟩ := q
    refine ⟨Z, ρ, .fz (.bool b), ρ', E, ?_, fun v H' Z' P => ?_⟩
    · show (g ρ).bind _ = _
      rw [e]; rfl
    · cases P.rv with
      | fz hd => cases hd; exact q H' Z' P.stp P.env P.ow
  | false => rw [if_neg Bool.false_ne_true] at q ⊢; exact q⟩
theorem ev_or {rest : List Expr} {g : TF} (h : EvE X a fa) (k : EvE X (.BoolOp .Or (b :: rest) pos) (fBool g)) : EvE X (.BoolOp .Or (a :: b :: rest) pos) (fBool (fOr (fTst fa) g)) := ⟨peImp (pe_or h.pe k.pe) fun σ H Q h => by
  have h1 := tT_tst (tT_or (tT_bool h))
  refine h1.imp fun Z h => h.imp fun ρ h => h.imp fun r h => h.imp fun ρ' h => ⟨h.1, h.2.1, fun v H' Z' P => ?_⟩
  obtain ⟨c, e, q⟩ := h.2.2 v H' Z' P
  refine ⟨c, e, ?_⟩
  cases c with
  | false =>
    rw [if_neg Bool.false_ne_true] at q ⊢
    obtain ⟨Z, ρ, b, ρ', E, e, q⟩ := q
    refine ⟨Z, ρ, .fz (.bool b), ρ', E, ?_, fun v H' Z' P => ?_⟩
    · show (g ρ).bind _ = _
      rw [e]; rfl
    · cases P.rv with
      | fz hd => cases hd; exact q H' Z' P.stp P.env P.ow
  | true => rw [if_pos rfl] at q ⊢; exact q⟩
theorem ev_not {f : EF} (h : EvE X a f) : EvE X (.UnaryOp .Not a pos) (fBool (fNot (fTst f))) := ⟨peImp (pe_not h.pe) fun σ H Q h => by
  have h1 := tT_tst (tT_not (tT_bool h))
  exact h1⟩
theorem ev_if {c : Expr} {t : TF} (hc : EvT X c t) (ha : EvE X a fa) (hb : EvE X b fb) : EvE X (.IfExp c a b pos) (fIf t fa fb) := ⟨peImp (pe_ifExp hc.pt ha.pe hb.pe) fun σ H Q h => tE_if h⟩
end
end Ev


set_option Elab.async false
set_option linter.all false
set_option maxRecDepth 100000
/-! Ev3: statements, loops, comprehensions. -/
namespace Ev
open PySem PySem.Spec L2
open PyProof.Rows hiding St

inductive Ctl | nx | bk | rt (r : RV)
abbrev SF := Ρ → Option (Ctl × Ρ)
abbrev GF := D → Ρ → Option Ρ
abbrev IF := Ρ → Option (List D × Ρ)

structure PostS (K : PySem.W.Frag) (σ : St) (ρ : Ρ) (H Z : Hp) (σ' : St) (ρ' : Ρ) (H' Z' : Hp) : Prop where
  stp : Stp (OwnA σ ρ) H Z H' Z'
  env : EnvOk K H' Z' σ' ρ'
  ow : ∀ a, OwnA σ' ρ' a → OwnA σ ρ a ∨ H a = none
  io : ∀ (i : Nat) (d' : D), ρ'[i]? = some (.io d') → σ'[i]? = σ[i]? ∧ ∃ d, ρ[i]? = some (.io d)
def EndOk (K : PySem.W.Frag) (D : Ends) (σ : St) (ρ : Ρ) (H : Hp) (σ' : St) (ρ' : Ρ) (H' Z' : Hp) : Ctl → Prop
  | .nx => D.nx σ' H'
  | .bk => D.bk σ' H'
  | .rt r => ∀ v, RvOk K H' Z' σ' ρ' v r → (∀ a d, r = .fr d → v = .ref a → H a = none ∨ OwnA σ ρ a) → D.rt v H'
def tS (K : PySem.W.Frag) (f : SF) : TS := fun D σ H => ∃ Z ρ c ρ', EnvOk K H Z σ ρ ∧ f ρ = some (c, ρ') ∧ ∀ σ' H' Z', PostS K σ ρ H Z σ' ρ' H' Z' → EndOk K D σ ρ H σ' ρ' H' Z' c
structure EvS (X : Cx) (s : Stmt) (f : SF) : Prop where
  ps : PS X s (tS X.K f)
structure EvB (X : Cx) (s : List Stmt) (f : SF) : Prop where
  pss : PSs X s (tS X.K f)

section
variable {K : PySem.W.Frag} {H Z H1 Z1 H2 Z2 H' Z' : Hp} {σ σ1 σ2 : St} {ρ ρ1 ρ2 ρ' : Ρ}
theorem PostS.refl (E : EnvOk K H Z σ ρ) : PostS K σ ρ H Z σ ρ H Z := ⟨.refl, E, fun _ h => .inl h, fun _ d h => ⟨rfl, d, h⟩⟩
theorem PostS.trans (a : PostS K σ ρ H Z σ1 ρ1 H1 Z1) (b : PostS K σ1 ρ1 H1 Z1 σ2 ρ2 H2 Z2) : PostS K σ ρ H Z σ2 ρ2 H2 Z2 where
  stp := a.stp.trans a.ow b.stp
  env := b.env
  ow := fun p h => by
    rcases b.ow p h with q | q
    · exact a.ow p q
    · cases e : H p with
      | none => exact .inr rfl
      | some u =>
        by_cases o : OwnA σ ρ p
        · exact .inl o
        · have := a.stp.fr p u e o; rw [q] at this; cases this
  io := fun i d h => by
    obtain ⟨e1, d1, h1⟩ := b.io i d h
    obtain ⟨e2, d2, h2⟩ := a.io i d1 h1
    exact ⟨e1.trans e2, d2, h2⟩
theorem PostS.nw (a : PostS K σ ρ H Z σ1 ρ1 H1 Z1) {p : Addr} (h : H1 p = none ∨ OwnA σ1 ρ1 p) : H p = none ∨ OwnA σ ρ p := by
  rcases h with q | q
  · cases e : H p with
    | none => exact .inl rfl
    | some u =>
      by_cases o : OwnA σ ρ p
      · exact .inr o
      · have := a.stp.fr p u e o; rw [q] at this; cases this
  · exact (a.ow p q).symm
theorem PostS.ofT (s : Stp (OwnA σ ρ) H Z H' Z') (E : EnvOk K H' Z' σ ρ') (o : Ow σ ρ ρ') : PostS K σ ρ H Z σ ρ' H' Z' := ⟨s, E, fun a h => .inl (o.ow a h), fun i d h => ⟨rfl, o.io i d h⟩⟩
theorem Post.toS {v : V} {r : RV} (P : Post K σ ρ ρ' H Z H' Z' v r) : PostS K σ ρ H Z σ ρ' H' Z' := .ofT P.stp P.env P.ow
theorem EndOk.trans {D : Ends} {c : Ctl} (a : PostS K σ ρ H Z σ1 ρ1 H1 Z1) (h : EndOk K D σ ρ H σ2 ρ2 H2 Z2 c) : EndOk K D σ1 ρ1 H1 σ2 ρ2 H2 Z2 c := by
  cases c with
  | nx => exact h
  | bk => exact h
  | rt r => exact fun v rv nw => h v rv fun p d e1 e2 => a.nw (nw p d e1 e2)

/-! ### a slot is set -/
def RV.slot : RV → Option Slot
  | .fz d => some (.val d)
  | .fr d => some (.own d)
  | .bw _ => none
def setSlot (ρ : Ρ) (i : Nat) (s : Slot) : Option Ρ := match ρ[i]? with
  | some (.io _) => none
  | some _ => some (ρ.set i s)
  | none => none
theorem setSlot_eq {i : Nat} {s : Slot} (h : setSlot ρ i s = some ρ') : ρ' = ρ.set i s ∧ i < ρ.length ∧ ∀ d, ρ[i]? ≠ some (.io d) := by
  unfold setSlot at h
  split at h
  · cases h
  · rename_i t hn ht
    cases h
    refine ⟨rfl, (List.getElem?_eq_some_iff.mp ht).1, fun d z => ?_⟩
    rw [ht] at z
    cases z
    exact hn _ rfl
  · cases h
theorem own_setB {i : Nat} {v : V} {s : Slot} {b : Addr} (h : OwnA (σ.set i (some v)) (ρ.set i s) b) : (∃ d, s.mut = some d ∧ v = .ref b) ∨ OwnA σ ρ b := by
  obtain ⟨j, t, d, e, m, e2⟩ := h
  rcases getSet e with ⟨rfl, rfl, _⟩ | ⟨n, e⟩
  · rcases getSet e2 with ⟨_, z, _⟩ | ⟨z, _⟩
    · cases z; exact .inl ⟨d, m, rfl⟩
    · exact absurd rfl z
  · rw [List.getElem?_set_ne (Ne.symm n)] at e2
    exact .inr ⟨j, t, d, e, m, e2⟩
theorem EnvOk.assign {i : Nat} {v : V} {s : Slot} (E : EnvOk K H Z σ ρ) (hi : i < ρ.length) (hs : match s with
    | .no => True
    | .val d => Dp K Z v d
    | .own d => ∃ a, v = .ref a ∧ Own K H Z a d ∧ Z a = none ∧ ¬ OwnA σ ρ a
    | .io _ => False) : EnvOk K H Z (σ.set i (some v)) (ρ.set i s) where
  len := by rw [List.length_set, List.length_set]; exact E.len
  zh := E.zh
  zl := E.zl
  val := fun j d h => by
    rcases getSet h with ⟨rfl, z, _⟩ | ⟨n, h⟩
    · subst z
      exact ⟨v, List.getElem?_set_self (by rw [E.len]; exact hi), hs⟩
    · rw [List.getElem?_set_ne (Ne.symm n)]; exact E.val j d h
  own := fun j t d h m => by
    rcases getSet h with ⟨rfl, z, _⟩ | ⟨n, h⟩
    · subst z
      cases t with
      | no => cases m
      | val _ => cases m
      | own _ =>
        cases m
        obtain ⟨a, rfl, o, z, _⟩ := hs
        exact ⟨a, List.getElem?_set_self (by rw [E.len]; exact hi), o, z⟩
      | io _ => exact hs.elim
    · rw [List.getElem?_set_ne (Ne.symm n)]; exact E.own j t d h m
  sep := fun j k t u d e a h1 m1 h2 m2 e1 e2 => by
    have key : ∀ (j' k' : Nat) (t' u' : Slot) (d' e' : D), (ρ.set i s)[j']? = some t' → t'.mut = some d' → ρ[k']? = some u' → u'.mut = some e' → (σ.set i (some v))[j']? = some (some (.ref a)) → σ[k']? = some (some (.ref a)) → j' = i → False := fun j' k' t' u' d' e' g1 n1 g2 n2 f1 f2 ej => by
      rw [ej] at g1 f1
      rcases getSet g1 with ⟨_, z, _⟩ | ⟨n, _⟩
      · rcases getSet f1 with ⟨_, z', _⟩ | ⟨n, _⟩
        · have z' : V.ref a = v := Option.some.inj z'
          rw [z] at n1
          cases s with
          | no => cases n1
          | val _ => cases n1
          | own _ =>
            obtain ⟨a', e', o, z, no⟩ := hs
            rw [e'] at z'
            cases z'
            exact no ⟨k', u', _, g2, n2, f2⟩
          | io _ => exact hs.elim
        · exact n rfl
      · exact n rfl
    by_cases hj : j = i
    · by_cases hk : k = i
      · rw [hj, hk]
      · rw [List.getElem?_set_ne (Ne.symm hk)] at h2 e2
        exact (key j k t u d e h1 m1 h2 m2 e1 e2 hj).elim
    · by_cases hk : k = i
      · rw [List.getElem?_set_ne (Ne.symm hj)] at h1 e1
        exact (key k j u t e d h2 m2 h1 m1 e2 e1 hk).elim
      · rw [List.getElem?_set_ne (Ne.symm hj)] at h1 e1
        rw [List.getElem?_set_ne (Ne.symm hk)] at h2 e2
        exact E.sep j k t u d e a h1 m1 h2 m2 e1 e2
theorem PostS.assign {i : Nat} {v : V} {r : RV} {s : Slot} (P : Post K σ ρ ρ1 H Z H1 Z1 v r) (hs : r.slot = some s) (h : setSlot ρ1 i s = some ρ2) : PostS K σ ρ H Z (σ.set i (some v)) ρ2 H1 Z1 := by
  obtain ⟨rfl, hi, nio⟩ := setSlot_eq h
  refine ⟨P.stp, P.env.assign hi ?_, fun b hb => ?_, fun j d hj => ?_⟩
  · cases P.rv with
    | fz hd => cases hs; exact hd
    | fr e o z no => cases hs; exact ⟨_, e, o, z, no⟩
    | bw _ => cases hs
  · rcases own_setB hb with ⟨d, m, e⟩ | hb
    · cases hr : r with
      | fz _ => rw [hr] at hs; cases hs; cases m
      | fr d' => exact (P.nw b d' hr e).symm
      | bw _ => rw [hr] at hs; cases hs
    · exact .inl (P.ow.ow b hb)
  · rcases getSet hj with ⟨rfl, z, _⟩ | ⟨n, hj⟩
    · subst z
      cases hr : r with
      | fz _ => rw [hr] at hs; cases hs
      | fr d' => rw [hr] at hs; cases hs
      | bw _ => rw [hr] at hs; cases hs
    · rw [List.getElem?_set_ne (Ne.symm n)]
      exact ⟨rfl, P.ow.io j d hj⟩

/-! ### small statements -/
def sNx : SF := fun ρ => some (.nx, ρ)
def sBk : SF := fun ρ => some (.bk, ρ)
def sSeq (f g : SF) : SF := fun ρ => (f ρ).bind fun p => match p.1 with
  | .nx => g p.2
  | c => some (c, p.2)
def sSet (i : Nat) (f : EF) : SF := fun ρ => (f ρ).bind fun p => (p.1.slot).bind fun s => (setSlot p.2 i s).bind fun ρ2 => some (.nx, ρ2)
def sRet (f : EF) : SF := fun ρ => (f ρ).bind fun p => match p.1 with
  | .bw _ => none
  | r => some (.rt r, p.2)
def sRetN : SF := fun ρ => some (.rt (.fz .none), ρ)
def sDrop (f : EF) : SF := fun ρ => (f ρ).bind fun p => some (.nx, p.2)
def sIf (t : TF) (f g : SF) : SF := fun ρ => (t ρ).bind fun p => if p.1 = true then f p.2 else g p.2
def sAug (i : Nat) (g : D → D → Option RV) (f : EF) : SF := fun ρ => match ρ[i]? with
  | some (.val d) => (fFz f ρ).bind fun p => (rs p.2 p.1).bind fun e => (g d e).bind fun r => (r.slot).bind fun s => (setSlot p.2 i s).bind fun ρ2 => some (.nx, ρ2)
  | _ => none

theorem tS_seq {f g : SF} {D : Ends} (h : tS K (sSeq f g) D σ H) : tSeq (tS K f) (tS K g) D σ H := by
  obtain ⟨Z, ρ, c, ρ', E, e, q⟩ := h
  obtain ⟨⟨c1, ρ1⟩, e1, e⟩ := bs e
  refine ⟨Z, ρ, c1, ρ1, E, e1, fun σ1 H1 Z1 P1 => ?_⟩
  cases c1 with
  | nx => exact ⟨Z1, ρ1, c, ρ', P1.env, e, fun σ2 H2 Z2 P2 => EndOk.trans P1 (q σ2 H2 Z2 (P1.trans P2))⟩
  | bk => cases e; exact q σ1 H1 Z1 P1
  | rt r => cases e; exact q σ1 H1 Z1 P1
theorem tS_set {i : Nat} {f : EF} {D : Ends} (h : tS K (sSet i f) D σ H) : tAsg (tE K f) (gName i) D σ H := by
  obtain ⟨Z, ρ, c, ρ', E, e, q⟩ := h
  obtain ⟨⟨r, ρ1⟩, e1, e⟩ := bs e
  obtain ⟨s, e2, e⟩ := bs e
  obtain ⟨ρ2, e3, e⟩ := bs e
  cases e
  exact ⟨Z, ρ, r, ρ1, E, e1, fun v H1 Z1 P => q _ H1 Z1 (.assign P e2 e3)⟩
theorem tS_ret {f : EF} {D : Ends} (h : tS K (sRet f) D σ H) : tRet (tE K f) D σ H := by
  obtain ⟨Z, ρ, c, ρ', E, e, q⟩ := h
  obtain ⟨⟨r, ρ1⟩, e1, e⟩ := bs e
  refine ⟨Z, ρ, r, ρ1, E, e1, fun v H1 Z1 P => ?_⟩
  cases r with
  | bw _ => cases e
  | fz d => cases e; exact q σ H1 Z1 P.toS v P.rv P.nw
  | fr d => cases e; exact q σ H1 Z1 P.toS v P.rv P.nw
theorem tS_retN {D : Ends} (h : tS K sRetN D σ H) : tRetN D σ H := by
  obtain ⟨Z, ρ, c, ρ', E, e, q⟩ := h
  cases e
  exact q σ H Z (.refl E) .non (.fz .non) fun _ _ z => nomatch z
theorem tS_drop {f : EF} {D : Ends} (h : tS K (sDrop f) D σ H) : tDrop (tE K f) D σ H := by
  obtain ⟨Z, ρ, c, ρ', E, e, q⟩ := h
  obtain ⟨⟨r, ρ1⟩, e1, e⟩ := bs e
  cases e
  exact ⟨Z, ρ, r, _, E, e1, fun v H1 Z1 P => q σ H1 Z1 P.toS⟩
theorem tS_if {t : TF} {f g : SF} {D : Ends} (h : tS K (sIf t f g) D σ H) : tIfS (tT K t) (tS K f) (tS K g) D σ H := by
  obtain ⟨Z, ρ, c, ρ', E, e, q⟩ := h
  obtain ⟨⟨b, ρ1⟩, e1, e⟩ := bs e
  refine ⟨Z, ρ, b, ρ1, E, e1, fun H1 Z1 s1 E1 o1 => ?_⟩
  have P1 : PostS K σ ρ H Z σ ρ1 H1 Z1 := .ofT s1 E1 o1
  cases b with
  | true =>
    show if true = true then _ else _
    rw [if_pos rfl]
    exact ⟨Z1, ρ1, c, ρ', E1, e, fun σ2 H2 Z2 P2 => EndOk.trans P1 (q σ2 H2 Z2 (P1.trans P2))⟩
  | false =>
    show if false = true then _ else _
    rw [if_neg Bool.false_ne_true]
    exact ⟨Z1, ρ1, c, ρ', E1, e, fun σ2 H2 Z2 P2 => EndOk.trans P1 (q σ2 H2 Z2 (P1.trans P2))⟩
theorem tS_aug {i : Nat} {g : PyData → PyData → Option RV} {f : EF} {D : Ends} (h : tS K (sAug i g f) D σ H) : tAug i (tE K f) (rOp2 K g) D σ H := by
  obtain ⟨Z, ρ, c, ρ', E, e, q⟩ := h
  unfold sAug at e
  split at e
  · rename_i d hs
    obtain ⟨⟨y, ρ1⟩, e1, e⟩ := bs e
    obtain ⟨d2, e2, e⟩ := bs e
    obtain ⟨r, e3, e⟩ := bs e
    obtain ⟨s, e4, e⟩ := bs e
    obtain ⟨ρ2, e5, e⟩ := bs e
    cases e
    obtain ⟨x, ex, hx⟩ := E.val i d hs
    refine ⟨x, ex, tE_fz ⟨Z, ρ, y, ρ1, E, e1, fun v H1 Z1 P => ?_⟩⟩
    refine ⟨Z1, d, d2, r, P.env.zh, P.env.zl, .inl (Dp.mono P.stp.zz hx), (P.rv.toRa (rs_isArg e2)).sh P.env e2, e3, fun w H2 Z2 A => ?_⟩
    exact q _ H2 Z2 (.assign (Post.trans P.stp P.ow (A.post P.env)) e4 e5)
  · cases e

/-! ### targets, what is walked -/
/-- sl: the slots that may change -/
structure PostG (K : PySem.W.Frag) (sl : List Nat) (σ : St) (ρ : Ρ) (H Z : Hp) (σ' : St) (ρ' : Ρ) (H' Z' : Hp) : Prop where
  s : PostS K σ ρ H Z σ' ρ' H' Z'
  ow : ∀ a, OwnA σ' ρ' a → OwnA σ ρ a
  len : σ'.length = σ.length
  keep : ∀ j, j ∉ sl → σ'[j]? = σ[j]?
def tG (K : PySem.W.Frag) (sl : List Nat) (tg : GF) : TG := fun v σ H Q => ∃ Z ρ d ρ', EnvOk K H Z σ ρ ∧ Dp K Z v d ∧ tg d ρ = some ρ' ∧ ∀ σ' H' Z', PostG K sl σ ρ H Z σ' ρ' H' Z' → Q σ' H'
def tGs (K : PySem.W.Frag) (sl : List Nat) (tg : List D → Ρ → Option Ρ) : TGs := fun vs σ H Q => ∃ Z ρ ds ρ', EnvOk K H Z σ ρ ∧ DpAll K Z vs ds ∧ tg ds ρ = some ρ' ∧ ∀ σ' H' Z', PostG K sl σ ρ H Z σ' ρ' H' Z' → Q σ' H'
structure EvG (X : Cx) (e : Expr) (sl : List Nat) (tg : GF) : Prop where
  pg : PG X e (tG X.K sl tg)
structure EvGs (X : Cx) (e : List Expr) (sl : List Nat) (tg : List D → Ρ → Option Ρ) : Prop where
  pgs : PGs X e (tGs X.K sl tg)
def gN (i : Nat) : GF := fun d ρ => setSlot ρ i (.val d)
def gsNil : List D → Ρ → Option Ρ := fun ds ρ => match ds with
  | [] => some ρ
  | _ => none
def gsCons (g : GF) (gs : List D → Ρ → Option Ρ) : List D → Ρ → Option Ρ := fun ds ρ => match ds with
  | d :: ds => (g d ρ).bind fun ρ1 => gs ds ρ1
  | [] => none
def gT (n : Nat) (gs : List D → Ρ → Option Ρ) : GF := fun d ρ => match d with
  | .tuple ds => if ds.length = n then gs ds ρ else none
  | _ => none
theorem tG_name {i : Nat} {v : V} {Q : St → Hp → Prop} (h : tG K [i] (gN i) v σ H Q) : gName i v σ H Q := by
  obtain ⟨Z, ρ, d, ρ', E, hd, e, q⟩ := h
  have P : Post K σ ρ ρ H Z H Z v (.fz d) := ⟨.refl, E, .refl, .fz hd, fun _ _ z => nomatch z⟩
  refine q _ H Z ⟨.assign P rfl e, fun a h => ?_, List.length_set .., fun j hj => List.getElem?_set_ne (fun z => hj (by simp [z]))⟩
  obtain ⟨rfl, _, _⟩ := setSlot_eq e
  rcases own_setB h with ⟨d, m, _⟩ | h
  · cases m
  · exact h
theorem tG_tup {n : Nat} {sl : List Nat} {gs : List D → Ρ → Option Ρ} {v : V} {Q : St → Hp → Prop} (h : tG K sl (gT n gs) v σ H Q) : gTup K n (tGs K sl gs) v σ H Q := by
  obtain ⟨Z, ρ, d, ρ', E, hd, e, q⟩ := h
  cases hd with
  | tup h1 h2 =>
    have e : (if _ = n then gs _ ρ else none) = some ρ' := e
    split at e
    · rename_i hn
      exact ⟨_, _, rfl, .inl (.inr (h1.imp fun o e => E.zh _ _ e)), by rw [h2.length]; exact hn, Z, ρ, _, ρ', E, h2, e, q⟩
    · cases e
  | _ => cases e
theorem tGs_cons {sl sl' : List Nat} {g : GF} {gs : List D → Ρ → Option Ρ} {vs : List V} {Q : St → Hp → Prop} (h : tGs K (sl ++ sl') (gsCons g gs) vs σ H Q) : gCons (tG K sl g) (tGs K sl' gs) vs σ H Q := by
  obtain ⟨Z, ρ, ds, ρ', E, hd, e, q⟩ := h
  cases hd with
  | nil => cases e
  | @cons v vs d ds h1 h2 =>
    obtain ⟨ρ1, e1, e⟩ := bs (show (g d ρ).bind (fun ρ1 => gs ds ρ1) = some ρ' from e)
    refine ⟨v, vs, rfl, Z, ρ, d, ρ1, E, h1, e1, fun σ1 H1 Z1 P1 => ⟨Z1, ρ1, ds, ρ', P1.s.env, DpAll.mono P1.s.stp.zz h2, e, fun σ2 H2 Z2 P2 => ?_⟩⟩
    exact q σ2 H2 Z2 ⟨P1.s.trans P2.s, fun a h => P1.ow a (P2.ow a h), P2.len.trans P1.len, fun j hj => (P2.keep j fun z => hj (List.mem_append_right _ z)).trans (P1.keep j fun z => hj (List.mem_append_left _ z))⟩

def JOk (K : PySem.W.Frag) (J : It) (Z : Hp) (xs : List D) : Prop := ∀ H Z', Hsub Z Z' → Hsub Z' H →
  (∀ i, i < xs.length → J.go i H) ∧ (∀ i x H' d, J.yld i H x H' → xs[i]? = some d → H' = H ∧ Dp K Z' x d) ∧ (∀ i, xs.length ≤ i → J.stop i H)
def tI (K : PySem.W.Frag) (it : IF) : TI := fun σ H R => ∃ Z ρ xs ρ', EnvOk K H Z σ ρ ∧ it ρ = some (xs, ρ') ∧ ∀ J H' Z', Stp (OwnA σ ρ) H Z H' Z' → EnvOk K H' Z' σ ρ' → Ow σ ρ ρ' → JOk K J Z' xs → R J H'
structure EvI (X : Cx) (tg e : Expr) (it : IF) : Prop where
  pi : PI X tg e (tI X.K it)
def iSeq (f : EF) : IF := fun ρ => (fFz f ρ).bind fun p => match p.1 with
  | .fz (.list ds) => some (ds, p.2)
  | .fz (.tuple ds) => some (ds, p.2)
  | _ => none
def rangeD (a : Int) (n : Nat) : List D := (List.range n).map fun (k : Nat) => PyData.int (a + (k : Int))
def rOk (i : Int) : Bool := decide (-(2 ^ 62) ≤ i) && decide (i < 2 ^ 62)
def iRg1 (fs : AF) : IF := fun ρ => (fs ρ).bind fun p => match p.1 with
  | [.fz (.int j)] => some (rangeD 0 j.toNat, p.2)
  | _ => none
def iRg2 (fs : AF) : IF := fun ρ => (fs ρ).bind fun p => match p.1 with
  | [.fz (.int i), .fz (.int j)] => some (rangeD i (j - i).toNat, p.2)
  | _ => none
theorem jok_list {a : Addr} {xs : List V} {ds : List D} (h1 : SqL K Z a xs) (h2 : DpAll K Z xs ds) : JOk K (Itl K a) Z ds := fun H Z' zz zh => by
  have hq : SqL K H a xs := zh.sql (zz.sql h1)
  refine ⟨fun i hi => ?_, fun i x H' d ⟨e, y⟩ hd => ⟨e, ?_⟩, fun i hi => ⟨xs, hq, by rw [h2.length]; exact hi⟩⟩
  · obtain ⟨v, e, _⟩ := h2.get (List.getElem?_eq_getElem hi)
    exact ⟨xs, v, hq, e⟩
  · obtain ⟨d', e', r⟩ := h2.get' (y xs hq)
    rw [hd] at e'; cases e'
    exact Dp.mono zz r
theorem jok_tup {a : Addr} {xs : List V} {ds : List D} (h1 : SqT K Z a xs) (h2 : DpAll K Z xs ds) : JOk K (Itt K a) Z ds := fun H Z' zz zh => by
  have hq : SqT K H a xs := zh.sqt (zz.sqt h1)
  refine ⟨fun i hi => ?_, fun i x H' d ⟨e, y⟩ hd => ⟨e, ?_⟩, fun i hi => ⟨xs, hq, by rw [h2.length]; exact hi⟩⟩
  · obtain ⟨v, e, _⟩ := h2.get (List.getElem?_eq_getElem hi)
    exact ⟨xs, v, hq, e⟩
  · obtain ⟨d', e', r⟩ := h2.get' (y xs hq)
    rw [hd] at e'; cases e'
    exact Dp.mono zz r
theorem rangeD_len {a : Int} {n : Nat} : (rangeD a n).length = n := by simp [rangeD]
theorem rangeD_get {a : Int} {n i : Nat} {d : D} (h : (rangeD a n)[i]? = some d) : d = .int (a + i) := by
  unfold rangeD at h
  rw [List.getElem?_map] at h
  obtain ⟨k, e, rfl⟩ := Option.map_eq_some_iff.mp h
  rw [List.getElem?_range (by have := (List.getElem?_eq_some_iff.mp e).1; simpa using this)] at e
  cases e; rfl
theorem jok_rng {a : Int} {n : Nat} : JOk K (Itr a n) Z (rangeD a n) := fun H Z' zz zh => by
  refine ⟨fun i hi => by rw [rangeD_len] at hi; exact hi, fun i x H' d ⟨e, y⟩ hd => ⟨e, ?_⟩, fun i hi => by rw [rangeD_len] at hi; exact hi⟩
  rw [rangeD_get hd, y]
  exact .int _
end

section
variable {X : Cx} {tg : Expr}
theorem piOr {e : Expr} {w w' : TI} (h : PI X tg e w) (h' : PI X tg e w') : PI X tg e (fun σ H R => w σ H R ∨ w' σ H R) := ⟨fun pins s σ H R I q => q.elim (h.run pins s σ H R I) (h'.run pins s σ H R I)⟩
theorem piImp {e : Expr} {w w' : TI} (h : PI X tg e w) (i : ∀ σ H R, w' σ H R → w σ H R) : PI X tg e w' := ⟨fun pins s σ H R I q => h.run pins s σ H R I (i σ H R q)⟩
theorem ei_seq {e : Expr} {f : EF} (h : EvE X e f) : EvI X tg e (iSeq f) := ⟨piImp (piOr (pi_list h.pe) (pi_tup h.pe)) fun σ H R ⟨Z, ρ, xs, ρ', E, e, q⟩ => by
  obtain ⟨⟨r, ρ1⟩, e1, e⟩ := bs e
  dsimp only at e
  split at e
  · rename_i ds
    cases e
    refine .inl (tE_fz ⟨Z, ρ, _, _, E, e1, fun v H1 Z1 P => ?_⟩)
    cases P.rv with
    | fz hd =>
      cases hd with
      | lst h1 h2 => exact ⟨_, rfl, ⟨_, P.env.zh.sql h1⟩, q _ H1 Z1 P.stp P.env P.ow (jok_list h1 h2)⟩
  · rename_i ds
    cases e
    refine .inr (tE_fz ⟨Z, ρ, _, _, E, e1, fun v H1 Z1 P => ?_⟩)
    cases P.rv with
    | fz hd =>
      cases hd with
      | tup h1 h2 => exact ⟨_, rfl, ⟨_, P.env.zh.sqt (.inl (.inr h1))⟩, q _ H1 Z1 P.stp P.env P.ow (jok_tup (.inl (.inr h1)) h2)⟩
  · cases e⟩
theorem rOk_of {i : Int} (h : rOk i = true) : -(2 ^ 62) ≤ i ∧ i < 2 ^ 62 := by
  obtain ⟨h1, h2⟩ := Bool.and_eq_true_iff.mp h
  exact ⟨of_decide_eq_true h1, of_decide_eq_true h2⟩
/-! ranges of any bounds -/
theorem turn_long {P : Program} {w : World} {K : PySem.W.Frag} {tg : Expr} (it : Addr) (lo : Int) (n : Nat) : Turn P w K tg (Itr lo n) [it] it (fun i h => IsLongIter h it (lo + (i : Nat) * 1) ((n : Int) - (i : Nat)) 1) where
  mem := by simp
  obj := fun i h st b hb => by
    have e : b = it := by simpa using hb
    subst e
    exact ⟨_, st, fun v z => by
      have z' : Data.fields _ = Data.cell v := z
      cases z'⟩
  keep := fun i h h' st k => k it (by simp) _ st
  item := by
    intro X hP hw hK hc i pins s σ H E I hf st hg
    subst hP hw hK
    obtain ⟨f0, f1, f2, f3, f4, f5⟩ := hf it (by simp)
    have W := Walks.longrange (prog := X.prog) (w := X.w) (I.ok.hd hc) it lo 1 n
    refine W.item i s _ _ hg st fun v h' tk hv st' kk => ?_
    obtain ⟨t, rfl⟩ := hv
    have I1 : Inv X pins σ H { s with heap := h', toks := tk } := I.turned (fun b o hb e => kk b o (by simpa using hb) e) f0 f1 f3 f4 f5
    refine ⟨_, rfl, go_of (s := { s with heap := h', toks := tk }) (n := "longrange_iterator") st' rfl rfl (by decide) ⟨.int (lo + i), H, I1, ⟨t, ?_⟩, ⟨rfl, rfl⟩, st', fun b hb => (hf b hb).1⟩⟩
    rw [Int.mul_one]
  done := by
    intro X hP hw hK hc i pins s σ H E I hf st hg
    subst hP hw hK
    obtain ⟨f0, f1, f2, f3, f4, f5⟩ := hf it (by simp)
    exact wpAny_pyNext_long_end (I.ok.hd hc) st (by have : n ≤ i := hg; omega) fun h' eb => ⟨rfl, I.turned (t' := s.toks) (fun b o hb e => eb b o hb e) f0 f1 f3 f4 f5⟩
  self := fun _ _ _ _ _ st h => wpAny_pyIter_longiter st h
theorem range_itL {pins : List (Addr × Obj)} {σ : St} {H : Hp} {s : Shared} {R : It → Hp → Prop} {E : Value → Shared → Prop} {lo hi : Int} {t u v : Tok} {tk : Nat} (I : Inv X pins σ H s)
    (q : R (Itr lo (hi - lo).toNat) H) : wpAny (model X.prog X.w) X.A (pyIter (.ref s.heap.objs.size)) (PIE X pins σ tg R) E { s with heap := s.heap.push { cls := .type "range", data := .fields #[.int lo t, .int hi u, .int 1 v] }, toks := tk } := by
  have I1 : Inv X pins σ H { s with heap := s.heap.push { cls := .type "range", data := .fields #[.int lo t, .int hi u, .int 1 v] }, toks := tk } := I.kept fun b o e => Heap.get?_push_of_some _ e
  have e1 : lo + ((0 : Nat) : Int) * 1 = lo := by simp
  have e2 : (((hi - lo).toNat : Nat) : Int) - ((0 : Nat) : Int) = Builtin.Range.rangeSize lo hi 1 := by rw [rangeSize_one]; split <;> omega
  cases hs : Builtin.Range.small lo hi 1 with
  | true =>
    refine wpAny_pyIter_range (IsRange.new ..) hs ?_
    refine ⟨(s.heap.push { cls := .type "range", data := .fields #[.int lo t, .int hi u, .int 1 v] }).objs.size, [(s.heap.push { cls := .type "range", data := .fields #[.int lo t, .int hi u, .int 1 v] }).objs.size], _, _, H, rfl,
      I1.kept (t' := tk) fun b o e => Heap.get?_push_of_some _ e, turn_range _ lo (hi - lo).toNat, ?_, fun b hb => ?_, q⟩
    · show IsRangeIter _ _ (lo + ((0 : Nat) : Int) * 1) ((((hi - lo).toNat : Nat) : Int) - ((0 : Nat) : Int)) 1
      rw [e1, e2]
      exact Heap.get?_push_size _ rfl
    · have e : b = (s.heap.push { cls := .type "range", data := .fields #[.int lo t, .int hi u, .int 1 v] }).objs.size := by simpa using hb
      subst e
      exact I1.fpOk (Nat.le_refl _) (I1.hok.fresh (Nat.le_refl _))
  | false =>
    refine wpAny_pyIter_longrange (IsRange.new ..) hs ?_
    refine ⟨(s.heap.push { cls := .type "range", data := .fields #[.int lo t, .int hi u, .int 1 v] }).objs.size, [(s.heap.push { cls := .type "range", data := .fields #[.int lo t, .int hi u, .int 1 v] }).objs.size], _, _, H, rfl,
      I1.kept (t' := tk) fun b o e => Heap.get?_push_of_some _ e, turn_long _ lo (hi - lo).toNat, ?_, fun b hb => ?_, q⟩
    · show IsLongIter _ _ (lo + ((0 : Nat) : Int) * 1) ((((hi - lo).toNat : Nat) : Int) - ((0 : Nat) : Int)) 1
      rw [e1, e2]
      exact Heap.get?_push_size _ rfl
    · have e : b = (s.heap.push { cls := .type "range", data := .fields #[.int lo t, .int hi u, .int 1 v] }).objs.size := by simpa using hb
      subst e
      exact I1.fpOk (Nat.le_refl _) (I1.hok.fresh (Nat.le_refl _))
def iRngL1 (ta : TA) : TI := fun σ H R => ta σ H fun vs H1 => ∃ j : Int, vs = [.int j] ∧ R (Itr 0 j.toNat) H1
def iRngL2 (ta : TA) : TI := fun σ H R => ta σ H fun vs H1 => ∃ i j : Int, vs = [.int i, .int j] ∧ R (Itr i (j - i).toNat) H1
theorem pi_rangeL1 {a : Expr} {ta : TA} {p pos : Pos} (hg : Gl X "range") (hm : X.mg "range" = none) (ha : PA X [a] ta) (hs : starEach [a] X.env = [(false, eval a X.env)] := by rfl) : PI X tg (.Call (.Name "range" p) [a] [] pos) (iRngL1 ta) := by
  refine ⟨fun pins s σ H R I h => ?_⟩
  refine Call_ (ld_blt I hg hm boot_range (PyProof.Rows.callWith_type1 (thn (ha.run pos pins s σ H _ I h) fun us s1 ⟨vs, H1, I1, r1, q1⟩ => ?_) hs rfl))
  obtain ⟨j, e, q⟩ := q1
  subst e
  cases r1 with
  | cons r rr =>
    cases rr
    obtain ⟨t, rfl⟩ := r
    exact call_range_1 (range_itL I1 (by simpa using q))
theorem pi_rangeL2 {a b : Expr} {ta : TA} {p pos : Pos} (hg : Gl X "range") (hm : X.mg "range" = none) (ha : PA X [a, b] ta) (hs : starEach [a, b] X.env = [(false, eval a X.env), (false, eval b X.env)] := by rfl) (hs2 : starEach [b] X.env = [(false, eval b X.env)] := by rfl) :
    PI X tg (.Call (.Name "range" p) [a, b] [] pos) (iRngL2 ta) := by
  refine ⟨fun pins s σ H R I h => ?_⟩
  refine Call_ (ld_blt I hg hm boot_range (PyProof.Rows.callWith_type1 (thn (ha.run pos pins s σ H _ I h) fun us s1 ⟨vs, H1, I1, r1, q1⟩ => ?_) (by rw [hs, hs2]) (by rw [hs2]; rfl)))
  obtain ⟨i, j, e, q⟩ := q1
  subst e
  cases r1 with
  | cons r rr =>
    cases rr with
    | cons r' rr =>
      cases rr
      obtain ⟨t, rfl⟩ := r
      obtain ⟨t', rfl⟩ := r'
      exact call_range_2 (range_itL I1 q)
theorem ei_rg1 {a : Expr} {fs : AF} {p pos : Pos} (hg : Gl X "range") (hm : X.mg "range" = none) (ha : EvA X [a] fs) (hs : starEach [a] X.env = [(false, eval a X.env)] := by rfl) : EvI X tg (.Call (.Name "range" p) [a] [] pos) (iRg1 fs) :=
  ⟨piImp (pi_rangeL1 hg hm ha.pa hs) fun σ H R ⟨Z, ρ, xs, ρ', E, e, q⟩ => by
    obtain ⟨⟨r, ρ1⟩, e1, e⟩ := bs e
    dsimp only at e
    split at e
    · rename_i j
      cases e
      refine ⟨Z, ρ, _, _, E, e1, fun vs H1 Z1 s1 E1 o1 ra => ?_⟩
      cases ra with
      | cons r1 rr =>
        cases rr
        cases r1 with
        | fz hd => cases hd; exact ⟨j, rfl, q _ H1 Z1 s1 E1 o1 jok_rng⟩
    · cases e⟩
theorem ei_rg2 {a b : Expr} {fs : AF} {p pos : Pos} (hg : Gl X "range") (hm : X.mg "range" = none) (ha : EvA X [a, b] fs) (hs : starEach [a, b] X.env = [(false, eval a X.env), (false, eval b X.env)] := by rfl) (hs2 : starEach [b] X.env = [(false, eval b X.env)] := by rfl) :
    EvI X tg (.Call (.Name "range" p) [a, b] [] pos) (iRg2 fs) :=
  ⟨piImp (pi_rangeL2 hg hm ha.pa hs hs2) fun σ H R ⟨Z, ρ, xs, ρ', E, e, q⟩ => by
    obtain ⟨⟨r, ρ1⟩, e1, e⟩ := bs e
    dsimp only at e
    split at e
    · rename_i i j
      cases e
      refine ⟨Z, ρ, _, _, E, e1, fun vs H1 Z1 s1 E1 o1 ra => ?_⟩
      cases ra with
      | cons r1 rr =>
        cases rr with
        | cons r2 rr =>
          cases rr
          cases r1 with
          | fz hd =>
            cases hd
            cases r2 with
            | fz hd => cases hd; exact ⟨i, j, rfl, q _ H1 Z1 s1 E1 o1 jok_rng⟩
    · cases e⟩
theorem pgImp {e : Expr} {t t' : TG} (h : PG X e t) (i : ∀ v σ H Q, t' v σ H Q → t v σ H Q) : PG X e t' := ⟨fun pins s σ H v u Q I r q => h.run pins s σ H v u Q I r (i v σ H Q q)⟩
theorem pgsImp {e : List Expr} {t t' : TGs} (h : PGs X e t) (i : ∀ v σ H Q, t' v σ H Q → t v σ H Q) : PGs X e t' := ⟨fun pins s σ H v u Q I r q => h.run pins s σ H v u Q I r (i v σ H Q q)⟩
theorem eg_name {i : Nat} {e : Expr} (h : PG X e (gName i)) : EvG X e [i] (gN i) := ⟨pgImp h fun v σ H Q h => tG_name h⟩
theorem egs_nil : EvGs X [] [] gsNil := ⟨pgsImp pgs_nil fun vs σ H Q ⟨Z, ρ, ds, ρ', E, hd, e, q⟩ => by
  cases hd with
  | nil => cases e; exact ⟨rfl, q σ H Z ⟨.refl E, fun _ h => h, rfl, fun _ _ => rfl⟩⟩
  | cons _ _ => cases e⟩
theorem egs_cons {e : Expr} {es : List Expr} {sl sl' : List Nat} {g : GF} {gs : List D → Ρ → Option Ρ} (h1 : EvG X e sl g) (h2 : EvGs X es sl' gs) (hs : (assignEach (e :: es) X.env).map (·.2) = assign e X.env :: (assignEach es X.env).map (·.2) := by rfl) : EvGs X (e :: es) (sl ++ sl') (gsCons g gs) :=
  ⟨pgsImp (pgs_cons h1.pg h2.pgs hs) fun vs σ H Q h => tGs_cons h⟩
theorem eg_tup {es : List Expr} {k : Nat} {sl : List Nat} {gs : List D → Ρ → Option Ρ} {n : Nat} {pos : Pos} (hc : X.calm = true) (h : EvGs X es sl gs) (hn : (assignEach es X.env).length = n := by rfl) (hst : (assignEach es X.env).findIdx? (·.1) = none := by rfl) : EvG X (.Tuple es k pos) sl (gT n gs) :=
  ⟨pgImp (pg_tup hc h.pgs hn hst) fun v σ H Q h => tG_tup h⟩

/-! ### rules of statements -/
variable {pos : Pos} {f g : SF} {fe : EF} {st : Stmt} {rest : List Stmt} {e : Expr}
theorem eb_nil : EvB X [] sNx := ⟨pssImp pss_nil fun D σ H ⟨Z, ρ, c, ρ', E, e, q⟩ => by cases e; exact q σ H Z (.refl E)⟩
theorem eb_one (h : EvS X st f) : EvB X [st] f := ⟨pss_one h.ps⟩
theorem eb_cons (h : EvS X st f) (k : EvB X rest g) : EvB X (st :: rest) (sSeq f g) := ⟨pssImp (pss_cons h.ps k.pss) fun D σ H h => tS_seq h⟩
theorem es_set' {i : Nat} (h : PS X st (tAsg (tE X.K fe) (gName i))) : EvS X st (sSet i fe) := ⟨psImp h fun D σ H h => tS_set h⟩
theorem es_ret (h : EvE X e fe) : EvS X (.Return (some e) pos) (sRet fe) := ⟨psImp (ps_ret h.pe) fun D σ H h => tS_ret h⟩
theorem es_retN : EvS X (.Return none pos) sRetN := ⟨psImp ps_retN fun D σ H h => tS_retN h⟩
theorem es_drop (h : PS X st (tDrop (tE X.K fe))) : EvS X st (sDrop fe) := ⟨psImp h fun D σ H h => tS_drop h⟩
theorem es_if {c : Expr} {a b : List Stmt} {t : TF} (hc : EvT X c t) (ha : EvB X a f) (hb : EvB X b g) : EvS X (.If c a b pos) (sIf t f g) := ⟨psImp (ps_if hc.pt ha.pss hb.pss) fun D σ H h => tS_if h⟩
theorem es_break : EvS X (.Break pos) sBk := ⟨psImp ps_break fun D σ H ⟨Z, ρ, c, ρ', E, e, q⟩ => by cases e; exact q σ H Z (.refl E)⟩
theorem es_aug {i : Nat} {op : Operator} {g : D → D → Option RV} {x : Str} {pos' : Pos} (hN : X.N.Nodup) (hi : X.N[i]? = some x) (hx : Loc X.env.scope x) (he : EvE X e fe) (ho : PIp X op (rOp2 X.K g)) (hf : X.fn x = true ∨ X.env.scope.names.lookup x = some .local := by first | exact .inl rfl | exact .inr rfl | assumption) :
    EvS X (.AugAssign (.Name x pos') op e pos) (sAug i g fe) := ⟨psImp (ps_aug hN hi hx he.pe ho hf) fun D σ H h => tS_aug h⟩
/-- target = e, a target of several names -/
def sAsg (g : GF) (f : EF) : SF := fun ρ => (fFz f ρ).bind fun p => match p.1 with
  | .fz d => (g d p.2).bind fun ρ2 => some (.nx, ρ2)
  | _ => none
theorem es_asg {tg : Expr} {g : GF} {sl : List Nat} (h : PS X st (tAsg (tE X.K fe) (tG X.K sl g))) : EvS X st (sAsg g fe) := ⟨psImp h fun D σ H ⟨Z, ρ, c, ρ', E, e, q⟩ => by
  obtain ⟨⟨r, ρ1⟩, e1, e⟩ := bs e
  refine tE_fz ⟨Z, ρ, r, ρ1, E, e1, fun v H1 Z1 P => ?_⟩
  have hrv := P.rv
  cases hrv with
  | fz hd =>
    obtain ⟨ρ2, e2, e⟩ := bs e
    cases e
    exact ⟨Z1, ρ1, _, _, P.env, hd, e2, fun σ2 H2 Z2 P2 => q σ2 H2 Z2 (P.toS.trans P2.s)⟩
  | fr => cases e
  | bw => cases e⟩

/-! ### for, while -/
def forL (tg : GF) (body : SF) : List D → Ρ → Option (Ctl × Ρ)
  | [], ρ => some (.nx, ρ)
  | d :: ds, ρ => (tg d ρ).bind fun ρ1 => (body ρ1).bind fun p => match p.1 with
    | .nx => forL tg body ds p.2
    | .bk => some (.nx, p.2)
    | .rt r => some (.rt r, p.2)
def sFor (it : IF) (tg : GF) (body : SF) : SF := fun ρ => (it ρ).bind fun p => forL tg body p.1 p.2
def whileL (c : TF) (body : SF) : Nat → Ρ → Option (Ctl × Ρ)
  | 0, _ => none
  | n + 1, ρ => (c ρ).bind fun p => if p.1 = true then (body p.2).bind fun q => match q.1 with
      | .nx => whileL c body n q.2
      | .bk => some (.nx, q.2)
      | .rt r => some (.rt r, q.2)
    else some (.nx, p.2)
def sWhile (n : Nat) (c : TF) (body : SF) : SF := whileL c body n
theorem tS_for {K : PySem.W.Frag} {it : IF} {tg : GF} {sl : List Nat} {body : SF} {D : Ends} {σ : St} {H : Hp} (h : tS K (sFor it tg body) D σ H) : tFor (tI K it) (tG K sl tg) (tS K body) D σ H := by
  obtain ⟨Z, ρ, c, ρ', E, e, q⟩ := h
  obtain ⟨⟨xs, ρ1⟩, e1, e⟩ := bs e
  refine ⟨Z, ρ, xs, ρ1, E, e1, fun J H1 Z1 s1 E1 o1 jok => ?_⟩
  refine ⟨fun i m σ2 H2 => ∃ Z2 ρ2, PostS K σ ρ H Z σ2 ρ2 H2 Z2 ∧ Hsub Z1 Z2 ∧ m = xs.length - i ∧ forL tg body (xs.drop i) ρ2 = some (c, ρ'), ⟨_, Z1, ρ1, .ofT s1 E1 o1, .refl, rfl, e⟩, ?_⟩
  rintro i m σ2 H2 ⟨Z2, ρ2, P2, zz, rfl, el⟩
  obtain ⟨jgo, jy, jstop⟩ := jok H2 Z2 zz P2.env.zh
  by_cases hi : i < xs.length
  · refine .inr ⟨jgo i hi, fun σ' H' => ∃ Z2 ρ2, PostS K σ ρ H Z σ' ρ2 H' Z2 ∧ Hsub Z1 Z2 ∧ forL tg body (xs.drop (i + 1)) ρ2 = some (c, ρ'), fun σ' H' ⟨Z2, ρ2, w1, w2, w3⟩ => ⟨xs.length - (i + 1), by omega, Z2, ρ2, w1, w2, rfl, w3⟩, fun x H' y => ?_⟩
    rw [List.drop_eq_getElem_cons hi] at el
    obtain ⟨rfl, hd⟩ := jy i x H' _ y (List.getElem?_eq_getElem hi)
    obtain ⟨ρ3, e3, el⟩ := bs el
    obtain ⟨⟨c4, ρ4⟩, e4, el⟩ := bs el
    refine ⟨Z2, ρ2, _, ρ3, P2.env, hd, e3, fun σ3 H3 Z3 G3 => ⟨Z3, ρ3, c4, ρ4, G3.s.env, e4, fun σ4 H4 Z4 P4 => ?_⟩⟩
    have P3 := G3.s
    have P := P2.trans (P3.trans P4)
    cases c4 with
    | nx => exact ⟨Z4, ρ4, P, zz.trans (P3.trans P4).stp.zz, el⟩
    | bk => cases el; exact q σ4 H4 Z4 P
    | rt r =>
      cases el
      exact fun v rv nw => q σ4 H4 Z4 P v rv fun p d e1 e2 => P2.nw (P3.nw (nw p d e1 e2))
  · refine .inl ⟨jstop i (by omega), ?_⟩
    rw [List.drop_eq_nil_of_le (by omega)] at el
    cases el
    exact q σ2 H2 Z2 P2
theorem es_for {iter : Expr} {body : List Stmt} {it : IF} {g : GF} {sl : List Nat} {tg : Expr} (hp : PassesOwn (model X.prog X.w) X.A X.env X.xe) (hc : X.calm = true) (hi : EvI X tg iter it) (hg : EvG X tg sl g) (hb : EvB X body f)
    (hs : ∀ x, foldedSetIterable iter X.env x = pure x := by intro _; rfl) : EvS X (.For tg iter body [] pos) (sFor it g f) := ⟨psImp (ps_for hp hc hi.pi hg.pg hb.pss hs) fun D σ H h => tS_for h⟩
theorem tS_while {K : PySem.W.Frag} {n : Nat} {c : TF} {body : SF} {D : Ends} {σ : St} {H : Hp} (h : tS K (sWhile n c body) D σ H) : tWhile (tT K c) (tS K body) D σ H := by
  obtain ⟨Z, ρ, cf, ρ', E, e, q⟩ := h
  refine ⟨fun m σ2 H2 => ∃ Z2 ρ2, PostS K σ ρ H Z σ2 ρ2 H2 Z2 ∧ whileL c body m ρ2 = some (cf, ρ'), ⟨n, Z, ρ, .refl E, e⟩, ?_⟩
  rintro m σ2 H2 ⟨Z2, ρ2, P2, el⟩
  cases m with
  | zero => cases el
  | succ m =>
    obtain ⟨⟨b, ρ3⟩, e3, el⟩ := bs el
    refine ⟨Z2, ρ2, b, ρ3, P2.env, e3, fun H3 Z3 s3 E3 o3 => ?_⟩
    have P3 : PostS K σ2 ρ2 H2 Z2 σ2 ρ3 H3 Z3 := .ofT s3 E3 o3
    cases b with
    | true =>
      show if true = true then _ else _
      rw [if_pos rfl]
      dsimp only at el
      rw [if_pos rfl] at el
      obtain ⟨⟨c4, ρ4⟩, e4, el⟩ := bs el
      refine ⟨fun σ' H' => ∃ Z2 ρ2, PostS K σ ρ H Z σ' ρ2 H' Z2 ∧ whileL c body m ρ2 = some (cf, ρ'), fun σ' H' w => ⟨m, Nat.lt_succ_self m, w⟩, Z3, ρ3, c4, ρ4, E3, e4, fun σ4 H4 Z4 P4 => ?_⟩
      have P := P2.trans (P3.trans P4)
      cases c4 with
      | nx => exact ⟨Z4, ρ4, P, el⟩
      | bk => cases el; exact q σ4 H4 Z4 P
      | rt r =>
        cases el
        exact fun v rv nw => q σ4 H4 Z4 P v rv fun p d e1 e2 => P2.nw (P3.nw (nw p d e1 e2))
    | false =>
      show if false = true then _ else _
      rw [if_neg Bool.false_ne_true]
      dsimp only at el
      rw [if_neg Bool.false_ne_true] at el
      cases el
      exact q σ2 H3 Z3 (P2.trans P3)
theorem es_while {c : Expr} {body : List Stmt} {t : TF} (n : Nat) (hp : PassesOwn (model X.prog X.w) X.A X.env X.xe) (hc : EvT X c t) (hb : EvB X body f) : EvS X (.While c body [] pos) (sWhile n t f) := ⟨psImp (ps_while hp hc.pt hb.pss) fun D σ H h => tS_while h⟩
end
end Ev


set_option Elab.async false
set_option linter.all false
set_option maxRecDepth 100000
/-! Ev4: comprehensions, methods that change a list, stores, defs and their calls. -/
namespace Ev
open PySem PySem.Spec L2
open PyProof.Rows hiding St

/-! ### comprehensions -/
def wipeR (ρ : Ρ) : List Nat → Ρ
  | [] => ρ
  | v :: vs => (wipeR ρ vs).set v .no
def unw (ρ0 ρ : Ρ) : List Nat → Ρ
  | [] => ρ
  | v :: vs => (unw ρ0 ρ vs).set v (ρ0.getD v .no)
def Slot.plain : Slot → Bool
  | .no => true
  | .val _ => true
  | _ => false
def fYes : TF := fun ρ => some (true, ρ)
def compL (tg : GF) (tt : TF) (te : EF) (vs : List Nat) : List D → Ρ → Option (List D × Ρ)
  | [], ρ => some ([], ρ)
  | d :: ds, ρ => (tg d ρ).bind fun ρ1 => (tt ρ1).bind fun p => if p.1 = true then (fFz te p.2).bind fun q => match q.1 with
        | .fz y => (compL tg tt te vs ds (wipeR q.2 vs)).bind fun z => some (y :: z.1, z.2)
        | _ => none
      else compL tg tt te vs ds (wipeR p.2 vs)
def fComp (vs : List Nat) (it : IF) (tg : GF) (tt : TF) (te : EF) : EF := fun ρ => (it ρ).bind fun p => if (vs.all fun v => (p.2.getD v .no).plain) = true then
    (compL tg tt te vs p.1 (wipeR p.2 vs)).bind fun q => if q.1.length ≤ sizeLine then some (.fr (.list q.1), unw p.2 q.2 vs) else none
  else none

section
variable {K : PySem.W.Frag} {H Z H1 Z1 H2 Z2 H' Z' : Hp} {σ σ1 σ2 : St} {ρ ρ0 ρ1 ρ2 ρ' : Ρ} {vs : List Nat}
theorem wipeR_len : ∀ vs : List Nat, (wipeR ρ vs).length = ρ.length
  | [] => rfl
  | v :: vs => by unfold wipeR; rw [List.length_set, wipeR_len vs]
theorem wipeR_get {j : Nat} {s : Slot} : ∀ {vs : List Nat}, (wipeR ρ vs)[j]? = some s → (j ∈ vs ∧ s = .no) ∨ (j ∉ vs ∧ ρ[j]? = some s)
  | [], h => .inr ⟨by simp, h⟩
  | v :: vs, h => by
    unfold wipeR at h
    rcases getSet h with ⟨rfl, z, _⟩ | ⟨n, h⟩
    · exact .inl ⟨by simp, z⟩
    · rcases wipeR_get h with ⟨a, b⟩ | ⟨a, b⟩
      · exact .inl ⟨by simp [a], b⟩
      · exact .inr ⟨by simp [a, n], b⟩
theorem unw_len : ∀ vs : List Nat, (unw ρ0 ρ vs).length = ρ.length
  | [] => rfl
  | v :: vs => by unfold unw; rw [List.length_set, unw_len vs]
theorem unw_get {j : Nat} {s : Slot} : ∀ {vs : List Nat}, (unw ρ0 ρ vs)[j]? = some s → (j ∈ vs ∧ s = ρ0.getD j .no) ∨ (j ∉ vs ∧ ρ[j]? = some s)
  | [], h => .inr ⟨by simp, h⟩
  | v :: vs, h => by
    unfold unw at h
    rcases getSet h with ⟨rfl, z, _⟩ | ⟨n, h⟩
    · exact .inl ⟨by simp, z⟩
    · rcases unw_get h with ⟨a, b⟩ | ⟨a, b⟩
      · exact .inl ⟨by simp [a], b⟩
      · exact .inr ⟨by simp [a, n], b⟩
theorem wipe_out' {j : Nat} : ∀ {vs : List Nat}, j ∉ vs → (wipe σ vs)[j]? = σ[j]?
  | [], _ => rfl
  | v :: vs, h => by
    unfold wipe
    rw [List.getElem?_set_ne (fun e => h (by simp [e]))]
    exact wipe_out' fun z => h (by simp [z])
theorem wipe_in {j : Nat} : ∀ {vs : List Nat}, j ∈ vs → (wipe σ vs)[j]? = if j < σ.length then some none else none
  | v :: vs, h => by
    unfold wipe
    by_cases e : v = j
    · subst e
      by_cases hl : v < σ.length
      · rw [if_pos hl, List.getElem?_set_self (by rw [wipe_length]; exact hl)]
      · rw [if_neg hl, List.getElem?_eq_none (by rw [List.length_set, wipe_length]; omega)]
    · rw [List.getElem?_set_ne e]
      exact wipe_in (by rcases List.mem_cons.mp h with z | z; exact absurd z.symm e; exact z)
theorem wipe_eq {sl : List Nat} (hl : σ2.length = σ.length) (h : ∀ j, j ∉ sl → σ2[j]? = (wipe σ vs)[j]?) (hs : ∀ j ∈ sl, j ∈ vs) : wipe σ2 vs = wipe σ vs := by
  apply List.ext_getElem?
  intro j
  by_cases hj : j ∈ vs
  · rw [wipe_in hj, wipe_in hj, hl]
  · rw [wipe_out' hj, h j fun z => hj (hs j z)]
theorem EnvOk.wiped (E : EnvOk K H Z σ ρ) : EnvOk K H Z (wipe σ vs) (wipeR ρ vs) where
  len := by rw [wipe_length, wipeR_len]; exact E.len
  zh := E.zh
  zl := E.zl
  val := fun j d h => by
    rcases wipeR_get h with ⟨_, z⟩ | ⟨n, h⟩
    · cases z
    · rw [wipe_out' n]; exact E.val j d h
  own := fun j s d h m => by
    rcases wipeR_get h with ⟨_, z⟩ | ⟨n, h⟩
    · subst z; cases m
    · rw [wipe_out' n]; exact E.own j s d h m
  sep := fun j k s t d e a h1 m1 h2 m2 e1 e2 => by
    rcases wipeR_get h1 with ⟨_, z⟩ | ⟨n1, h1⟩
    · subst z; cases m1
    · rcases wipeR_get h2 with ⟨_, z⟩ | ⟨n2, h2⟩
      · subst z; cases m2
      · rw [wipe_out' n1] at e1
        rw [wipe_out' n2] at e2
        exact E.sep j k s t d e a h1 m1 h2 m2 e1 e2
theorem OwnA.ofWipe {a : Addr} (h : OwnA (wipe σ vs) (wipeR ρ vs) a) : OwnA σ ρ a := by
  obtain ⟨j, s, d, h, m, e⟩ := h
  rcases wipeR_get h with ⟨_, z⟩ | ⟨n, h⟩
  · subst z; cases m
  · rw [wipe_out' n] at e; exact ⟨j, s, d, h, m, e⟩
theorem getD_get {v : Nat} {s : Slot} (h : s = ρ.getD v .no) (n : s ≠ .no) : ρ[v]? = some s := by
  rw [List.getD_eq_getElem?_getD] at h
  cases e : ρ[v]? with
  | none => rw [e] at h; exact absurd h n
  | some t => rw [e] at h; exact congrArg some h.symm
theorem plain_mut {s : Slot} (h : s.plain = true) : s.mut = none := by cases s <;> first | rfl | cases h
/-- behind the block: its own slots as they were -/
theorem EnvOk.unwiped (E0 : EnvOk K H Z σ ρ0) (pl : ∀ v ∈ vs, (ρ0.getD v .no).plain = true) (zz : Hsub Z Z') (E : EnvOk K H' Z' (wipe σ vs) ρ) : EnvOk K H' Z' σ (unw ρ0 ρ vs) where
  len := by rw [unw_len, ← E.len, wipe_length]
  zh := E.zh
  zl := E.zl
  val := fun j d h => by
    rcases unw_get h with ⟨hj, z⟩ | ⟨n, h⟩
    · obtain ⟨v, e, r⟩ := E0.val j d (getD_get z (by simp))
      exact ⟨v, e, Dp.mono zz r⟩
    · have := E.val j d h; rw [wipe_out' n] at this; exact this
  own := fun j s d h m => by
    rcases unw_get h with ⟨hj, z⟩ | ⟨n, h⟩
    · have := plain_mut (pl j hj); rw [← z, m] at this; cases this
    · have := E.own j s d h m; rw [wipe_out' n] at this; exact this
  sep := fun j k s t d e a h1 m1 h2 m2 e1 e2 => by
    rcases unw_get h1 with ⟨hj, z⟩ | ⟨n1, h1⟩
    · have := plain_mut (pl j hj); rw [← z, m1] at this; cases this
    · rcases unw_get h2 with ⟨hj, z⟩ | ⟨n2, h2⟩
      · have := plain_mut (pl k hj); rw [← z, m2] at this; cases this
      · rw [← wipe_out' n1] at e1
        rw [← wipe_out' n2] at e2
        exact E.sep j k s t d e a h1 m1 h2 m2 e1 e2
theorem OwnA.ofUnw {a : Addr} (pl : ∀ v ∈ vs, (ρ0.getD v .no).plain = true) (h : OwnA σ (Ev.unw ρ0 ρ vs) a) : OwnA (L2.wipe σ vs) ρ a := by
  obtain ⟨j, s, d, h, m, e⟩ := h
  rcases unw_get h with ⟨hj, z⟩ | ⟨n, h⟩
  · have := plain_mut (pl j hj); rw [← z, m] at this; cases this
  · exact ⟨j, s, d, h, m, by rw [wipe_out' n]; exact e⟩
theorem EnvOk.updD {p : Addr} {o : HO} (E : EnvOk K H Z σ ρ) (zp : Z p = none) (no : ¬ OwnA σ ρ p) : EnvOk K (upd H p o) Z σ ρ :=
  E.step .refl (fun b u h => by rw [upd_ne (ne_of_none h zp)]; exact E.zh b u h) E.zl fun a ha => by
    have hne : a ≠ p := fun e => by subst e; exact no ha
    obtain ⟨i, s, d, h, m, e⟩ := ha
    obtain ⟨a', e', r, z⟩ := E.own i s d h m
    rw [e] at e'; cases e'
    exact ⟨fun o' h' => by rw [upd_ne hne]; exact h', z⟩
theorem Stp.updD {O : Addr → Prop} {p : Addr} {o : HO} (s : Stp O H Z H' Z') (hp : H p = none) : Stp O H Z (upd H' p o) Z' :=
  ⟨s.zz, fun b u h n => by rw [upd_ne (ne_of_none h hp)]; exact s.fr b u h n, s.nz⟩
theorem Ow.unwiped {pl : ∀ v ∈ vs, (ρ0.getD v .no).plain = true} (o : Ow (wipe σ vs) (wipeR ρ0 vs) ρ) : Ow σ ρ0 (Ev.unw ρ0 ρ vs) where
  ow := fun a h => (o.ow a (h.ofUnw pl)).ofWipe
  io := fun i d h => by
    rcases unw_get h with ⟨hj, z⟩ | ⟨n, h⟩
    · have := pl i hj; rw [← z] at this; cases this
    · obtain ⟨d', h'⟩ := o.io i d h
      rcases wipeR_get h' with ⟨_, z⟩ | ⟨_, h'⟩
      · cases z
      · exact ⟨d', h'⟩
theorem tE_lc {it : IF} {tg : GF} {tt : TF} {te : EF} {sl : List Nat} {Q : VK} (hs : ∀ j ∈ sl, j ∈ vs) (h : tE K (fComp vs it tg tt te) σ H Q) : tLc (tI K it) (tG K sl tg) (tT K tt) (tE K te) vs σ H Q := by
  obtain ⟨Z, ρ, r, ρ', E, e, q⟩ := h
  obtain ⟨⟨xs, ρ1⟩, e1, e⟩ := bs e
  dsimp only at e
  split at e
  · rename_i pl
    have pl : ∀ v ∈ vs, (ρ1.getD v .no).plain = true := List.all_eq_true.mp pl
    obtain ⟨⟨tot, ρe⟩, e2, e⟩ := bs e
    dsimp only at e
    split at e
    · rename_i hz
      cases e
      refine ⟨Z, ρ, xs, ρ1, E, e1, fun J H1 Z1 s1 E1 o1 jok D hD => ?_⟩
      have noD1 : ¬ OwnA σ ρ1 D := E1.notOwn hD
      have zD1 : Z1 D = none := E1.znone hD
      refine ⟨fun i m H2 => ∃ Z2 ρ2 acc dacc ys, Stp (OwnA (wipe σ vs) (wipeR ρ1 vs)) H1 Z1 H2 Z2 ∧ EnvOk K H2 Z2 (wipe σ vs) ρ2 ∧ Ow (wipe σ vs) (wipeR ρ1 vs) ρ2 ∧ H2 D = some (.lst acc) ∧ Z2 D = none ∧ DpAll K Z2 acc dacc ∧ m = xs.length - i ∧
        compL tg tt te vs (xs.drop i) ρ2 = some (ys, ρe) ∧ dacc ++ ys = tot, ⟨_, Z1, wipeR ρ1 vs, [], [], tot, .updD .refl hD, E1.wiped.updD zD1 fun h => noD1 h.ofWipe, .refl, upd_same, zD1, .nil, rfl, e2, rfl⟩, ?_⟩
      rintro i m H2 ⟨Z2, ρ2, acc, dacc, ys, s2, E2, o2, hD2, zD2, hacc, rfl, el, htot⟩
      have noD2 : ¬ OwnA (wipe σ vs) ρ2 D := fun h => noD1 (o2.ow D h).ofWipe
      obtain ⟨jgo, jy, jstop⟩ := jok H2 Z2 s2.zz E2.zh
      by_cases hi : i < xs.length
      · refine .inr ⟨jgo i hi, fun H2 => ∃ Z2 ρ2 acc dacc ys, Stp (OwnA (wipe σ vs) (wipeR ρ1 vs)) H1 Z1 H2 Z2 ∧ EnvOk K H2 Z2 (wipe σ vs) ρ2 ∧ Ow (wipe σ vs) (wipeR ρ1 vs) ρ2 ∧ H2 D = some (.lst acc) ∧ Z2 D = none ∧ DpAll K Z2 acc dacc ∧
          compL tg tt te vs (xs.drop (i + 1)) ρ2 = some (ys, ρe) ∧ dacc ++ ys = tot, fun H' ⟨Z2, ρ2, acc, dacc, ys, a1, a2, a3, a4, a5, a6, a7, a8⟩ => ⟨xs.length - (i + 1), by omega, Z2, ρ2, acc, dacc, ys, a1, a2, a3, a4, a5, a6, rfl, a7, a8⟩, fun x H' y => ?_⟩
        rw [List.drop_eq_getElem_cons hi] at el
        obtain ⟨rfl, hd⟩ := jy i x H' _ y (List.getElem?_eq_getElem hi)
        obtain ⟨ρ3, e3, el⟩ := bs el
        obtain ⟨⟨b, ρ4⟩, e4, el⟩ := bs el
        refine ⟨Z2, ρ2, _, ρ3, E2, hd, e3, fun σ3 H3 Z3 G3 => ⟨wipe_eq (by rw [G3.len, wipe_length]) G3.keep hs, ?_⟩⟩
        have P3 := G3.s
        have hw : wipe σ3 vs = wipe σ vs := wipe_eq (by rw [G3.len, wipe_length]) G3.keep hs
        refine ⟨Z3, ρ3, b, ρ4, P3.env, e4, fun H4 Z4 s4 E4 o4 => ?_⟩
        -- the end of a turn
        have fin : ∀ {H5 Z5 : Hp} {ρ5 : Ρ}, Stp (OwnA σ3 ρ3) H3 Z3 H5 Z5 → EnvOk K H5 Z5 σ3 ρ5 → Ow σ3 ρ3 ρ5 → H5 D = some (.lst acc) ∧ Z5 D = none ∧ ¬ OwnA σ3 ρ5 D ∧ Stp (OwnA (wipe σ vs) (wipeR ρ1 vs)) H1 Z1 H5 Z5 ∧ EnvOk K H5 Z5 (wipe σ vs) (wipeR ρ5 vs) ∧ Ow (wipe σ vs) (wipeR ρ1 vs) (wipeR ρ5 vs) := fun {H5 Z5 ρ5} s5 E5 o5 => by
          have P5 := P3.trans (PostS.ofT s5 E5 o5)
          have h1 : H5 D = some (.lst acc) := P5.stp.fr D _ hD2 noD2
          have h2 : Z5 D = none := P5.stp.nonZ zD2 ⟨_, hD2⟩ noD2
          have h3 : ¬ OwnA σ3 ρ5 D := fun h => (P5.ow D h).elim noD2 fun z => by rw [hD2] at z; cases z
          have h4 := P5.env.wiped (vs := vs)
          rw [hw] at h4
          refine ⟨h1, h2, h3, s2.trans (fun b h => .inl (o2.ow b h)) P5.stp, h4, ⟨fun a h => ?_, fun j d h => ?_⟩⟩
          · rw [← hw] at h
            exact o2.ow a (G3.ow a (o5.ow a h.ofWipe))
          · rcases wipeR_get h with ⟨_, z⟩ | ⟨_, h⟩
            · cases z
            · obtain ⟨_, d', h'⟩ := P5.io j d h
              exact o2.io j d' h'
        cases b with
        | true =>
          show if true = true then _ else _
          rw [if_pos rfl]
          dsimp only at el
          rw [if_pos rfl] at el
          obtain ⟨⟨y, ρ5⟩, e5, el⟩ := bs el
          refine tE_fz ⟨Z4, ρ4, y, ρ5, E4, e5, fun v H5 Z5 P5 => ?_⟩
          have hrv := P5.rv
          cases hrv with
          | @fz dv hdv =>
            obtain ⟨⟨ys', ρ6⟩, e6, el⟩ := bs el
            cases el
            obtain ⟨h1, h2, h3, h4, h5, h6⟩ := fin (s4.trans (fun b h => .inl (o4.ow b h)) P5.stp) P5.env (o4.trans P5.ow)
            have hlen : acc.length < sizeLine := by
              have : tot.length ≤ sizeLine := hz
              rw [← htot, List.length_append, List.length_cons, ← hacc.length] at this
              omega
            refine ⟨acc, h1, hlen, Z5, wipeR ρ5 vs, acc ++ [v], dacc ++ [dv], ys', h4.updD hD, h5.updD h2 fun h => ?_, h6, upd_same, h2, ?_, e6, ?_⟩
            · rw [← hw] at h
              exact h3 h.ofWipe
            · exact (DpAll.mono ((P3.stp.zz.trans s4.zz).trans P5.stp.zz) hacc).append (.cons hdv .nil)
            · rw [List.append_assoc]; exact htot
          | fr => cases el
          | bw => cases el
        | false =>
          show if false = true then _ else _
          rw [if_neg Bool.false_ne_true]
          dsimp only at el
          rw [if_neg Bool.false_ne_true] at el
          obtain ⟨h1, h2, h3, h4, h5, h6⟩ := fin s4 E4 o4
          exact ⟨Z4, wipeR ρ4 vs, acc, dacc, ys, h4, h5, h6, h1, h2, DpAll.mono (P3.stp.zz.trans s4.zz) hacc, el, htot⟩
      · refine .inl ⟨jstop i (by omega), ?_⟩
        rw [List.drop_eq_nil_of_le (by omega)] at el
        cases el
        rw [List.append_nil] at htot
        subst htot
        refine q _ H2 Z2 ⟨s1.trans (fun b h => .inl (o1.ow b h.ofWipe)) s2, EnvOk.unwiped E1 pl s2.zz E2, o1.trans (Ow.unwiped (pl := pl) o2), .fr rfl (.lst hD2 hacc (by rw [hacc.length]; exact hz)) zD2 fun h => noD2 (h.ofUnw pl), fun a d _ e2 => ?_⟩
        cases e2
        exact (PostS.ofT s1 E1 o1).nw (.inl hD)
    · cases e
  · cases e
end

section
variable {X : Cx} {pos : Pos}
structure EvTs (X : Cx) (ifs : List Expr) (f : TF) : Prop where
  pts : PTs X ifs (tT X.K f)
theorem ets_nil : EvTs X [] fYes := ⟨⟨fun pins s σ H Q I ⟨Z, ρ, b, ρ', E, e, q⟩ => by
  cases e
  exact pts_nil.run pins s σ H Q I (q H Z .refl E .refl)⟩⟩
theorem ets_one {c : Expr} {t : TF} (h : EvT X c t) : EvTs X [c] t := ⟨pts_one h.pt⟩
section
variable {elt tg iter : Expr} {ifs : List Expr} {scope : Scope} {it : IF} {g : GF} {sl : List Nat} {tt : TF} {te : EF} (own : List (Str × Nat))
theorem ev_lc (hc : X.calm = true) (hN : X.N.Nodup) (hi : EvI X tg iter it) (ok : BlkOk X.N X.env.scope scope own) (hsl : ∀ j ∈ sl, j ∈ own.map (·.2))
    (hg : ∀ (s : Shared) (H : Hp) (C : Addr) (cl : List (Str × Addr)) (fp : List Addr), EvG (X.blk s H scope (compEnvC scope cl C X.env) fp) tg sl g) (ht : ∀ (s : Shared) (H : Hp) (C : Addr) (cl : List (Str × Addr)) (fp : List Addr), EvTs (X.blk s H scope (compEnvC scope cl C X.env) fp) ifs tt)
    (he : ∀ (s : Shared) (H : Hp) (C : Addr) (cl : List (Str × Addr)) (fp : List Addr), EvE (X.blk s H scope (compEnvC scope cl C X.env) fp) elt te) (hs : ∀ x, foldedSetIterable iter X.env x = pure x := by intro _; rfl) :
    EvE X (.ListComp elt [⟨tg, iter, ifs, 0⟩] scope pos) (fComp (own.map (·.2)) it g tt te) :=
  ⟨peImp (pe_lc hc hN hi.pi ok (fun s H C cl fp => (hg s H C cl fp).pg) (fun s H C cl fp => (ht s H C cl fp).pts) (fun s H C cl fp => (he s H C cl fp).pe) hs) fun σ H Q h => tE_lc hsl h⟩
theorem es_setLc {i : Nat} {y : Str} {py spos : Pos} (hc : X.calm = true) (hN : X.N.Nodup) (hy : X.N[i]? = some y) (hyl : X.env.scope.names.lookup y = some .local)
    (hsw : swapsWith (.ListComp elt [⟨tg, iter, ifs, 0⟩] scope pos) (some (.Name y py)) spos.line X.env = pure true) (hi : EvI X tg iter it) (ok : BlkOk X.N X.env.scope scope own) (hsl : ∀ j ∈ sl, j ∈ own.map (·.2))
    (hg : ∀ (s : Shared) (H : Hp) (C : Addr) (cl : List (Str × Addr)) (fp : List Addr), EvG (X.blk s H scope (compEnvC scope cl C X.env) fp) tg sl g) (ht : ∀ (s : Shared) (H : Hp) (C : Addr) (cl : List (Str × Addr)) (fp : List Addr), EvTs (X.blk s H scope (compEnvC scope cl C X.env) fp) ifs tt)
    (he : ∀ (s : Shared) (H : Hp) (C : Addr) (cl : List (Str × Addr)) (fp : List Addr), EvE (X.blk s H scope (compEnvC scope cl C X.env) fp) elt te) (hs : ∀ x, foldedSetIterable iter X.env x = pure x := by intro _; rfl) :
    EvS X (.Assign [.Name y py] (.ListComp elt [⟨tg, iter, ifs, 0⟩] scope pos) spos) (sSet i (fComp (own.map (·.2)) it g tt te)) :=
  ⟨psImp (ps_setLc hc hN hy hyl hsw hi.pi ok (fun s H C cl fp => (hg s H C cl fp).pg) (fun s H C cl fp => (ht s H C cl fp).pts) (fun s H C cl fp => (he s H C cl fp).pe) hs) fun D σ H h => by
    have h1 := tS_set h
    exact tE_lc hsl h1⟩
end
theorem es_set {i : Nat} {x : Str} {e : Expr} {f : EF} {pos' : Pos} (hN : X.N.Nodup) (hi : X.N[i]? = some x) (hx : Loc X.env.scope x) (he : EvE X e f) (hs : swapsWith e (some (.Name x pos')) pos.line X.env = pure false := by rfl)
    (hf : X.fn x = true ∨ X.env.scope.names.lookup x = some .local := by first | exact .inl rfl | exact .inr rfl | assumption) : EvS X (.Assign [.Name x pos'] e pos) (sSet i f) := es_set' (ps_set hN hi hx he.pe hs hf)
end

/-! ### methods that change a list in a slot -/
def putAt (ρ : Ρ) (i : Nat) (d : D) : Option Ρ := match ρ[i]? with
  | some (.own _) => some (ρ.set i (.own d))
  | some (.io _) => some (ρ.set i (.io d))
  | _ => none
def mutAt (ρ : Ρ) (i : Nat) : Option (List D) := match ρ[i]? with
  | some (.own (.list ds)) => some ds
  | some (.io (.list ds)) => some ds
  | _ => none
def fMut (i : Nat) (m : List D → List D → Option (D × List D)) (fs : AF) : EF := fun ρ => (mutAt ρ i).bind fun _ => (fs ρ).bind fun p => (fzAll p.1).bind fun as => (mutAt p.2 i).bind fun ds => (m ds as).bind fun r =>
  if r.2.length ≤ sizeLine then (putAt p.2 i (.list r.2)).bind fun ρ2 => some (.fz r.1, ρ2) else none
def fMut0 (i : Nat) (m : List D → List D → Option (D × List D)) : EF := fun ρ => (mutAt ρ i).bind fun ds => (m ds []).bind fun r =>
  if r.2.length ≤ sizeLine then (putAt ρ i (.list r.2)).bind fun ρ2 => some (.fz r.1, ρ2) else none
def rMt (K : PySem.W.Frag) (m : List D → List D → Option (D × List D)) : V → List V → Hp → VK → Prop := fun x vs H Q => ∃ Z a xs ds as d ds', x = .ref a ∧ H a = some (.lst xs) ∧ DpAll K Z xs ds ∧ DpAll K Z vs as ∧ m ds as = some (d, ds') ∧ ds'.length ≤ sizeLine ∧
  ∀ v xs', Dp K Z v d → DpAll K Z xs' ds' → Q v (upd H a (.lst xs'))
section
variable {K : PySem.W.Frag} {H Z H' Z' : Hp} {σ : St} {ρ ρ' : Ρ}
theorem mutAt_own {i : Nat} {ds : List D} (E : EnvOk K H Z σ ρ) (h : mutAt ρ i = some ds) : ∃ s a xs, ρ[i]? = some s ∧ s.mut = some (.list ds) ∧ σ[i]? = some (some (.ref a)) ∧ H a = some (.lst xs) ∧ DpAll K Z xs ds ∧ xs.length ≤ sizeLine ∧ Z a = none := by
  unfold mutAt at h
  split at h
  · rename_i ds' hs
    cases h
    obtain ⟨a, e, o, z⟩ := E.own i _ _ hs rfl
    cases o with
    | lst h1 h2 h3 => exact ⟨_, a, _, hs, rfl, e, h1, h2, h3, z⟩
  · rename_i ds' hs
    cases h
    obtain ⟨a, e, o, z⟩ := E.own i _ _ hs rfl
    cases o with
    | lst h1 h2 h3 => exact ⟨_, a, _, hs, rfl, e, h1, h2, h3, z⟩
  · cases h
theorem putAt_eq {i : Nat} {d : D} (h : putAt ρ i d = some ρ') : ∃ s t d0, ρ[i]? = some s ∧ s.mut = some d0 ∧ ρ' = ρ.set i t ∧ t.mut = some d ∧ (∀ d', t = .io d' → ∃ d'', s = .io d'') := by
  unfold putAt at h
  split at h
  · rename_i d0 hs; cases h; exact ⟨_, _, d0, hs, rfl, rfl, rfl, fun _ z => nomatch z⟩
  · rename_i d0 hs; cases h; exact ⟨_, _, d0, hs, rfl, rfl, rfl, fun _ z => ⟨_, rfl⟩⟩
  · cases h
/-- the list at a slot is written -/
theorem EnvOk.put {i : Nat} {s t : Slot} {d0 d : D} {a : Addr} {o : HO} (E : EnvOk K H Z σ ρ) (hs : ρ[i]? = some s) (hm : s.mut = some d0) (ht : t.mut = some d) (e : σ[i]? = some (some (.ref a))) (o' : Own K (upd H a o) Z a d) : EnvOk K (upd H a o) Z σ (ρ.set i t) := by
  have za : Z a = none := by
    obtain ⟨a', e', _, z⟩ := E.own i s d0 hs hm
    rw [e] at e'; cases e'; exact z
  refine ⟨by rw [List.length_set]; exact E.len, fun b u h => by rw [upd_ne (ne_of_none h za)]; exact E.zh b u h, E.zl, fun j d' h => ?_, fun j s' d' h m => ?_, fun j k s' t' d' e' b h1 m1 h2 m2 e1 e2 => ?_⟩
  · rcases getSet h with ⟨_, z, _⟩ | ⟨_, h⟩
    · rw [← z] at ht; cases ht
    · exact E.val j d' h
  · rcases getSet h with ⟨rfl, z, _⟩ | ⟨n, h⟩
    · rw [z, ht] at m; cases m
      exact ⟨a, e, o', za⟩
    · obtain ⟨b, eb, ob, zb⟩ := E.own j s' d' h m
      have hb : b ≠ a := fun z => n (E.sep j i s' s d' d0 a h m hs hm (by rw [eb, z]) e)
      exact ⟨b, eb, ob.mono (fun u hu => by rw [upd_ne hb]; exact hu) .refl, zb⟩
  · have key : ∀ {j : Nat} {s' : Slot} {d' : D}, (ρ.set i t)[j]? = some s' → s'.mut = some d' → ∃ s2 d2, ρ[j]? = some s2 ∧ s2.mut = some d2 := fun {j s' d'} h m => by
      rcases getSet h with ⟨rfl, _, _⟩ | ⟨_, h⟩
      · exact ⟨s, d0, hs, hm⟩
      · exact ⟨s', d', h, m⟩
    obtain ⟨s2, d2, g1, n1⟩ := key h1 m1
    obtain ⟨s3, d3, g2, n2⟩ := key h2 m2
    exact E.sep j k s2 s3 d2 d3 b g1 n1 g2 n2 e1 e2
theorem Ow.put {i : Nat} {s t : Slot} {d0 d : D} (hs : ρ[i]? = some s) (hm : s.mut = some d0) (ht : ∀ d', t = .io d' → ∃ d'', s = .io d'') : Ow σ ρ (ρ.set i t) := ⟨fun a ⟨j, s', d', h, m, e⟩ => by
  rcases getSet h with ⟨rfl, _, _⟩ | ⟨_, h⟩
  · exact ⟨j, s, d0, hs, hm, e⟩
  · exact ⟨j, s', d', h, m, e⟩, fun j d' h => by
  rcases getSet h with ⟨rfl, z, _⟩ | ⟨_, h⟩
  · obtain ⟨d'', e⟩ := ht d' z.symm
    exact ⟨d'', by rw [hs, e]⟩
  · exact ⟨d', h⟩⟩
theorem Stp.put {O : Addr → Prop} {a : Addr} {o : HO} (h : O a) : Stp O H Z (upd H a o) Z := ⟨.refl, fun b u hb n => by rw [upd_ne (fun z => n (by rw [z]; exact h))]; exact hb, fun _ _ h => .inl h⟩
/-- slot i's list is written to ds', an item is handed back -/
theorem put_post {i : Nat} {ds' : List D} {d : D} {v : V} {xs' : List V} {a : Addr} {ρ2 : Ρ} (E : EnvOk K H Z σ ρ) (hp : putAt ρ i (.list ds') = some ρ2) (e : σ[i]? = some (some (.ref a))) (hd : Dp K Z v d) (hx : DpAll K Z xs' ds') (hz : ds'.length ≤ sizeLine) :
    Post K σ ρ ρ2 H Z (upd H a (.lst xs')) Z v (.fz d) := by
  obtain ⟨s, t, d0, hs, hm, rfl, ht, hio⟩ := putAt_eq hp
  have E2 := E.put (o := .lst xs') hs hm ht e (.lst upd_same hx (by rw [hx.length]; exact hz))
  exact ⟨.put ⟨i, s, d0, hs, hm, e⟩, E2, .put (d := .none) hs hm hio, .fz hd, fun _ _ z => nomatch z⟩
theorem tE_mut {i : Nat} {m : List D → List D → Option (D × List D)} {fs : AF} {Q : VK} (h : tE K (fMut i m fs) σ H Q) : tBM K "list" (rMt K m) (tVar i) (tA K fs) σ H Q := by
  obtain ⟨Z, ρ, r, ρ', E, e, q⟩ := h
  obtain ⟨ds0, e0, e⟩ := bs e
  obtain ⟨⟨rs', ρ1⟩, e1, e⟩ := bs e
  obtain ⟨as, e2, e⟩ := bs e
  obtain ⟨ds, e3, e⟩ := bs e
  obtain ⟨⟨d, ds'⟩, e4, e⟩ := bs e
  dsimp only at e
  split at e
  · rename_i hz
    obtain ⟨ρ2, e5, e⟩ := bs e
    cases e
    obtain ⟨s0, a, xs0, hs0, hm0, ea, ha0, hd0, hz0, za0⟩ := mutAt_own E e0
    refine ⟨_, ea, .inl ⟨rfl, _, .of ha0⟩, Z, ρ, rs', ρ1, E, e1, fun vs H1 Z1 s1 E1 o1 ra => ?_⟩
    obtain ⟨s1', a', xs1, hs1, hm1, ea', ha1, hd1, hz1, za1⟩ := mutAt_own E1 e3
    rw [ea] at ea'; cases ea'
    refine ⟨Z1, a, xs1, ds, as, d, ds', rfl, ha1, hd1, fzAll_dp ra e2, e4, hz, fun v xs' hv hx => ?_⟩
    exact q _ _ Z1 (Post.trans s1 o1 (put_post E1 e5 ea hv hx hz))
  · cases e
theorem tE_mut0 {i : Nat} {m : List D → List D → Option (D × List D)} {Q : VK} (h : tE K (fMut0 i m) σ H Q) : tBM0 K "list" (rMt K m) (tVar i) σ H Q := by
  obtain ⟨Z, ρ, r, ρ', E, e, q⟩ := h
  obtain ⟨ds, e3, e⟩ := bs e
  obtain ⟨⟨d, ds'⟩, e4, e⟩ := bs e
  dsimp only at e
  split at e
  · rename_i hz
    obtain ⟨ρ2, e5, e⟩ := bs e
    cases e
    obtain ⟨s0, a, xs, hs0, hm0, ea, ha0, hd0, hz0, za0⟩ := mutAt_own E e3
    refine ⟨_, ea, .inl ⟨rfl, _, .of ha0⟩, Z, a, xs, ds, [], d, ds', rfl, ha0, hd0, .nil, e4, hz, fun v xs' hv hx => ?_⟩
    exact q _ _ Z (put_post E e5 ea hv hx hz)
  · cases e
end
/-- append, pop, pop at, reverse, insert -/
def mAppend : List D → List D → Option (D × List D) := fun ds as => match as with
  | [d] => some (.none, ds ++ [d])
  | _ => none
def mPop : List D → List D → Option (D × List D) := fun ds as => match as with
  | [] => (ds[ds.length - 1]?).bind fun d => some (d, ds.dropLast)
  | _ => none
def mPopAt : List D → List D → Option (D × List D) := fun ds as => match as with
  | [.int i] => if (decide (-(2 ^ 63) ≤ i) && decide (i < 2 ^ 63)) = true then (seqIndex? i ds.length).bind fun k => (ds[k]?).bind fun d => some (d, ds.eraseIdx k) else none
  | _ => none
def mReverse : List D → List D → Option (D × List D) := fun ds as => match as with
  | [] => some (.none, ds.reverse)
  | _ => none
def mInsert : List D → List D → Option (D × List D) := fun ds as => match as with
  | [.int i, d] => if (decide (0 ≤ i) && decide (i < 2 ^ 63)) = true then some (.none, ds.take i.toNat ++ [d] ++ ds.drop i.toNat) else none
  | _ => none
section
variable {X : Cx} {o e : Expr} {es : List Expr} {fs : AF} {name : Str} {apos cpos : Pos} {id : String} {m : List D → List D → Option (D × List D)}
theorem ev_mut {i : Nat} (pa : PlainAttrs "list") (slot : PySem.Slot "list" name id) (hty : typeOf (.builtin id) = pure (.type "method_descriptor")) (hm : MtR X id (rMt X.K m)) (ho : PE X o (tVar i)) (ha : EvA X (e :: es) fs)
    (hbase : attributeBase o name X.env (eval o X.env) = eval o X.env := by rfl)
    (hfew : ((backTo cpos (starEach (e :: es) X.env)).all (fun x => !x.1) && (backToKw cpos (keywordEach [] X.env)).all (fun x => x.1.isSome)
      && decide ((e :: es).length + ([] : List Keyword).length + (if ([] : List Keyword).isEmpty then 0 else 1) < 30)) = true := by rfl)
    (hline : (apos.endLine == cpos.line) = true := by rfl) (hs : starEach (e :: es) X.env = (false, eval e X.env) :: starEach es X.env := by rfl) (hplain : (backTo cpos (starEach es X.env)).any (·.1) = false := by rfl) :
    EvE X (.Call (.Attribute o name apos) (e :: es) [] cpos) (fMut i m fs) := ⟨peImp (pe_bm pa slot hty hm ho ha.pa hbase hfew hline hs hplain) fun σ H Q h => tE_mut h⟩
theorem ev_mut0 {i : Nat} (pa : PlainAttrs "list") (slot : PySem.Slot "list" name id) (hty : typeOf (.builtin id) = pure (.type "method_descriptor")) (hm : MtR X id (rMt X.K m)) (ho : PE X o (tVar i))
    (hbase : attributeBase o name X.env (eval o X.env) = eval o X.env := by rfl) (hline : (apos.endLine == cpos.line) = true := by rfl) :
    EvE X (.Call (.Attribute o name apos) [] [] cpos) (fMut0 i m) := ⟨peImp (pe_bm0 pa slot hty hm ho hbase hline) fun σ H Q h => tE_mut0 h⟩
theorem mtImp {r r' : V → List V → Hp → VK → Prop} (h : MtR X id r) (i : ∀ x vs H Q, r' x vs H Q → r x vs H Q) : MtR X id r' := fun pins s σ H x xs v us Q I rx rv q => h pins s σ H x xs v us Q I rx rv (i x xs H Q q)
theorem mr_append : MtR X "list.append" (rMt X.K mAppend) := mtImp mt_append fun x vs H Q ⟨Z, a, xs, ds, as, d, ds', e, ha, hd, has, em, hz, q⟩ => by
  subst e
  cases has with
  | nil => cases em
  | cons h1 h2 =>
    cases h2 with
    | nil =>
      cases em
      have hl : xs.length < sizeLine := by
        rw [List.length_append, ← hd.length] at hz
        exact hz
      exact ⟨a, xs, _, rfl, rfl, ha, hl, q _ _ .non (hd.append (.cons h1 .nil))⟩
    | cons _ _ => cases em
theorem mr_reverse : MtR X "list.reverse" (rMt X.K mReverse) := mtImp mt_reverse fun x vs H Q ⟨Z, a, xs, ds, as, d, ds', e, ha, hd, has, em, hz, q⟩ => by
  subst e
  cases has with
  | nil => cases em; exact ⟨a, xs, rfl, rfl, ha, q _ _ .non hd.reverse⟩
  | cons _ _ => cases em
theorem dpAll_dropLast {K : PySem.W.Frag} {Z : Hp} {ds : List PyData} {vs : List V} (h : DpAll K Z vs ds) : DpAll K Z vs.dropLast ds.dropLast := by
  rw [List.dropLast_eq_take, List.dropLast_eq_take, h.length]
  exact h.take _
theorem mr_pop : MtR X "list.pop" (rMt X.K mPop) := mtImp mt_pop fun x vs H Q ⟨Z, a, xs, ds, as, d, ds', e, ha, hd, has, em, hz, q⟩ => by
  subst e
  cases has with
  | nil =>
    obtain ⟨d1, e1, em⟩ := bs em
    cases em
    obtain ⟨v, ev, hv⟩ := hd.get e1
    rw [← hd.length] at ev
    exact ⟨a, xs, v, rfl, rfl, ha, ev, q _ _ hv (dpAll_dropLast hd)⟩
  | cons _ _ => cases em
theorem mr_popAt : MtR X "list.pop" (rMt X.K mPopAt) := mtImp mt_popAt fun x vs H Q ⟨Z, a, xs, ds, as, d, ds', e, ha, hd, has, em, hz, q⟩ => by
  subst e
  cases has with
  | nil => cases em
  | cons h1 h2 =>
    cases h2 with
    | nil =>
      cases h1 with
      | int i =>
        have em : (if (decide (-(2 ^ 63) ≤ i) && decide (i < 2 ^ 63)) = true then (seqIndex? i ds.length).bind fun k => (ds[k]?).bind fun d => some (d, ds.eraseIdx k) else none) = some (d, ds') := em
        split at em
        · rename_i hi
          obtain ⟨hi1, hi2⟩ := Bool.and_eq_true_iff.mp hi
          obtain ⟨k, e1, em⟩ := bs em
          obtain ⟨d1, e2, em⟩ := bs em
          cases em
          obtain ⟨v, ev, hv⟩ := hd.get e2
          exact ⟨a, xs, i, k, v, rfl, rfl, ha, of_decide_eq_true hi1, of_decide_eq_true hi2, by rw [hd.length]; exact e1, ev, q _ _ hv (hd.erase k)⟩
        · cases em
      | _ => cases em
    | cons _ _ => cases h1 <;> cases em
theorem mr_insert : MtR X "list.insert" (rMt X.K mInsert) := mtImp mt_insert fun x vs H Q ⟨Z, a, xs, ds, as, d, ds', e, ha, hd, has, em, hz, q⟩ => by
  subst e
  cases has with
  | nil => cases em
  | cons h1 h2 =>
    cases h2 with
    | nil => cases h1 <;> cases em
    | cons h2 h3 =>
      cases h3 with
      | cons _ _ => cases h1 <;> cases em
      | nil =>
        cases h1 with
        | @int i =>
          have em : (if (decide (0 ≤ i) && decide (i < 2 ^ 63)) = true then some (PyData.none, ds.take i.toNat ++ [_] ++ ds.drop i.toNat) else none) = some (d, ds') := em
          split at em
          · rename_i hi
            obtain ⟨hi1, hi2⟩ := Bool.and_eq_true_iff.mp hi
            cases em
            have hl : xs.length < sizeLine := by
              rw [List.length_append, List.length_append, List.length_take, List.length_drop, ← hd.length] at hz
              simp only [List.length_cons, List.length_nil] at hz
              omega
            refine ⟨a, xs, i, _, rfl, rfl, ha, hl, of_decide_eq_true hi1, of_decide_eq_true hi2, q _ _ .non ?_⟩
            exact ((hd.take _).append (.cons h2 .nil)).append (hd.drop _)
          · cases em
        | _ => cases em

/-- x[i] = e at a list in slot j -/
def sStore (j : Nat) (fi fe : EF) : SF := fun ρ => (fFz fe ρ).bind fun p => match p.1 with
  | .fz d => (mutAt p.2 j).bind fun _ => (fFz fi p.2).bind fun q => match q.1 with
    | .fz (.int k) => (mutAt q.2 j).bind fun ds => (ixN ds.length k).bind fun n => if ds.length ≤ sizeLine then (putAt q.2 j (.list (ds.set n d))).bind fun ρ2 => some (.nx, ρ2) else none
    | _ => none
  | _ => none
theorem es_store {j : Nat} {st : Stmt} {fi fe : EF} (h : PS X st (tAsg (tE X.K fe) (gSub (tVar j) (tE X.K fi) rSetL))) : EvS X st (sStore j fi fe) := ⟨psImp h fun D σ H ⟨Z, ρ, c, ρ', E, e, q⟩ => by
  obtain ⟨⟨r, ρ1⟩, e1, e⟩ := bs e
  refine tE_fz ⟨Z, ρ, r, ρ1, E, e1, fun v H1 Z1 P => ?_⟩
  have hrv := P.rv
  cases hrv with
  | fr => cases e
  | bw => cases e
  | fz hd =>
    obtain ⟨ds0, e0, e⟩ := bs e
    obtain ⟨⟨r2, ρ2⟩, e2, e⟩ := bs e
    obtain ⟨s0, a, xs0, hs0, hm0, ea, ha0, hd0, hz0, za0⟩ := mutAt_own P.env e0
    refine ⟨_, ea, tE_fz ⟨Z1, ρ1, r2, ρ2, P.env, e2, fun u H2 Z2 P2 => ?_⟩⟩
    have hrv2 := P2.rv
    cases hrv2 with
    | fr => cases e
    | bw => cases e
    | fz hd2 =>
      cases hd2 with
      | int k =>
        obtain ⟨ds, e3, e⟩ := bs (show (mutAt ρ2 j).bind _ = some (c, ρ') from e)
        obtain ⟨n, e4, e⟩ := bs e
        split at e
        · rename_i hz
          obtain ⟨ρ3, e5, e⟩ := bs e
          cases e
          obtain ⟨s1', a', xs1, hs1, hm1, ea', ha1, hd1, hz1, za1⟩ := mutAt_own P2.env e3
          rw [ea] at ea'; cases ea'
          refine ⟨a, xs1, k, n, rfl, rfl, ha1, by rw [hd1.length]; exact e4, ?_⟩
          have hdv := Dp.mono P2.stp.zz hd
          have P3 := put_post P2.env e5 ea hdv (DpAll.set hdv n hd1) (by rw [List.length_set]; exact hz)
          exact q σ _ Z2 (P.toS.trans (P2.toS.trans P3.toS))
        · cases e
      | _ => cases e⟩
end
end Ev


set_option Elab.async false
set_option linter.all false
set_option maxRecDepth 100000
/-! Ev5: defs and their calls. -/
namespace Ev
open PySem PySem.Spec L2
open PyProof.Rows hiding St

abbrev Fn := List Slot → Option (RV × List D)
/-- what the in-out parameters hold at the end -/
def outs : List Slot → Ρ → Option (List D)
  | [], _ => some []
  | .io _ :: as, .io d :: ρ => (outs as ρ).bind fun r => some (d :: r)
  | .io _ :: _, _ => none
  | .no :: as, _ :: ρ => outs as ρ
  | .val _ :: as, _ :: ρ => outs as ρ
  | .own _ :: as, _ :: ρ => outs as ρ
  | _ :: _, [] => none
def putOuts : List Slot → List D → List Slot
  | [], _ => []
  | .io _ :: as, d :: ds => .io d :: putOuts as ds
  | .io x :: as, [] => .io x :: putOuts as []
  | s :: as, ds => s :: putOuts as ds
/-- np parameters, ns slots -/
def fnOf (np ns : Nat) (body : SF) : Fn := fun as => if as.length = np then (body (as ++ List.replicate (ns - np) .no)).bind fun p => (outs as p.2).bind fun o => match p.1 with
    | .rt (.fz d) => some (.fz d, o)
    | .rt (.fr d) => some (.fr d, o)
    | .nx => some (.fz .none, o)
    | _ => none
  else none
/-- arguments: values, at most one in-out -/
def argSlots (ρ : Ρ) : List RV → Option (List Slot)
  | [] => some []
  | .fz d :: r => (argSlots ρ r).bind fun ss => some (.val d :: ss)
  | .bw i :: r => match ρ[i]? with
    | some (.val d) => (argSlots ρ r).bind fun ss => some (.val d :: ss)
    | some (.own d) => (argSlots ρ r).bind fun ss => some (.io d :: ss)
    | some (.io d) => (argSlots ρ r).bind fun ss => some (.io d :: ss)
    | _ => none
  | .fr _ :: _ => none
def ioIx (ρ : Ρ) : List RV → List Nat
  | [] => []
  | .bw i :: r => match ρ[i]? with
    | some (.own _) => i :: ioIx ρ r
    | some (.io _) => i :: ioIx ρ r
    | _ => ioIx ρ r
  | _ :: r => ioIx ρ r
def putIo (ρ : Ρ) : List Nat → List D → Option Ρ
  | [], [] => some ρ
  | [i], [d] => putAt ρ i d
  | _, _ => none
def fCall (F : Fn) (fs : AF) : EF := fun ρ => (fs ρ).bind fun p => (argSlots p.2 p.1).bind fun as => (F as).bind fun r => (putIo p.2 (ioIx p.2 p.1) r.2).bind fun ρ2 => match r.1 with
  | .bw _ => none
  | x => some (x, ρ2)

/-- own arguments stand nowhere: a def's arguments are values and in-out lists -/
def ArgsPlain (as : List Slot) : Prop := ∀ (i : Nat) (d : D), as[i]? ≠ some (.own d)
structure PostF (K : PySem.W.Frag) (vs : List V) (as : List Slot) (os : List D) (H Z H' Z' : Hp) (v : V) (r : RV) : Prop where
  stp : Stp (OwnA (vs.map some) as) H Z H' Z'
  env : EnvOk K H' Z' (vs.map some) (putOuts as os)
  rv : match r with
    | .fz d => Dp K Z' v d
    | .fr d => ∃ a, v = .ref a ∧ Own K H' Z' a d ∧ Z' a = none ∧ ¬ OwnA (vs.map some) (putOuts as os) a ∧ (H a = none ∨ OwnA (vs.map some) as a)
    | .bw _ => False
def spF (K : PySem.W.Frag) (F : Fn) : Sp := fun vs H Q _ => ∃ Z as r os, ArgsPlain as ∧ EnvOk K H Z (vs.map some) as ∧ F as = some (r, os) ∧ ∀ v H' Z', PostF K vs as os H Z H' Z' v r → Q v H'

section
variable {K : PySem.W.Frag} {H Z H' Z' : Hp} {σ : St} {ρ ρ' : Ρ}
theorem outs_get : ∀ {as : List Slot} {ρ : Ρ} {os : List D} {i : Nat} {s : Slot}, outs as ρ = some os → (putOuts as os)[i]? = some s →
    (∃ d d', s = .io d ∧ as[i]? = some (.io d') ∧ ρ[i]? = some (.io d)) ∨ (as[i]? = some s ∧ ∀ d, s ≠ .io d)
  | [], _, _, i, s, h, g => by unfold putOuts at g; simp at g
  | .io x :: as, .io d :: ρ, os, i, s, h, g => by
    obtain ⟨r, e1, e⟩ := bs (show (outs as ρ).bind _ = some os from h)
    cases e
    cases i with
    | zero => have g : some (Slot.io d) = some s := g; cases g; exact .inl ⟨d, x, rfl, rfl, rfl⟩
    | succ i => exact outs_get (i := i) e1 g
  | .io x :: as, [], _, _, _, h, _ => by cases h
  | .io x :: as, .no :: ρ, _, _, _, h, _ => by cases h
  | .io x :: as, .val _ :: ρ, _, _, _, h, _ => by cases h
  | .io x :: as, .own _ :: ρ, _, _, _, h, _ => by cases h
  | .no :: as, t :: ρ, os, i, s, h, g => by
    have h : outs as ρ = some os := h
    cases i with
    | zero => have g : some Slot.no = some s := g; cases g; exact .inr ⟨rfl, fun _ z => nomatch z⟩
    | succ i => exact outs_get (i := i) h g
  | .val x :: as, t :: ρ, os, i, s, h, g => by
    have h : outs as ρ = some os := h
    cases i with
    | zero => have g : some (Slot.val x) = some s := g; cases g; exact .inr ⟨rfl, fun _ z => nomatch z⟩
    | succ i => exact outs_get (i := i) h g
  | .own x :: as, t :: ρ, os, i, s, h, g => by
    have h : outs as ρ = some os := h
    cases i with
    | zero => have g : some (Slot.own x) = some s := g; cases g; exact .inr ⟨rfl, fun _ z => nomatch z⟩
    | succ i => exact outs_get (i := i) h g
  | .no :: as, [], os, i, s, h, g => by cases h
  | .val x :: as, [], os, i, s, h, g => by cases h
  | .own x :: as, [], os, i, s, h, g => by cases h
theorem putOuts_len : ∀ (as : List Slot) (os : List D), (putOuts as os).length = as.length
  | [], _ => rfl
  | .io _ :: as, d :: ds => by show (putOuts as ds).length + 1 = _; rw [putOuts_len as ds]; rfl
  | .io _ :: as, [] => by show (putOuts as []).length + 1 = _; rw [putOuts_len as []]; rfl
  | .no :: as, ds => by show (putOuts as ds).length + 1 = _; rw [putOuts_len as ds]; rfl
  | .val _ :: as, ds => by show (putOuts as ds).length + 1 = _; rw [putOuts_len as ds]; rfl
  | .own _ :: as, ds => by show (putOuts as ds).length + 1 = _; rw [putOuts_len as ds]; rfl
theorem startEnv {N : List Str} {vs : List V} {as : List Slot} {n : Nat} (E : EnvOk K H Z (vs.map some) as) (hl : vs.length = n) : EnvOk K H Z (start N vs) (as ++ List.replicate (N.length - n) .no) := by
  have el : (vs.map some).length = as.length := E.len
  have key : ∀ {i : Nat} {s : Slot}, (as ++ List.replicate (N.length - n) Slot.no)[i]? = some s → s = .no ∨ (as[i]? = some s ∧ ∀ x, (vs.map some)[i]? = some x → (start N vs)[i]? = some x) := fun {i s} h => by
    by_cases hi : i < as.length
    · rw [List.getElem?_append_left hi] at h
      refine .inr ⟨h, fun x hx => ?_⟩
      unfold L2.start
      rw [List.getElem?_append_left (by rw [el]; exact hi)]
      exact hx
    · rw [List.getElem?_append_right (by omega)] at h
      exact .inl (List.eq_of_mem_replicate (List.mem_of_getElem? h))
  refine ⟨?_, E.zh, E.zl, fun i d h => ?_, fun i s d h m => ?_, fun i j s t d e a h1 m1 h2 m2 e1 e2 => ?_⟩
  · unfold L2.start
    rw [List.length_append, List.length_append, el, List.length_replicate, List.length_replicate, hl]
  · rcases key h with z | ⟨h, k⟩
    · cases z
    · obtain ⟨v, e, r⟩ := E.val i d h
      exact ⟨v, k _ e, r⟩
  · rcases key h with z | ⟨h, k⟩
    · subst z; cases m
    · obtain ⟨a, e, r⟩ := E.own i s d h m
      exact ⟨a, k _ e, r⟩
  · rcases key h1 with z | ⟨h1, k1⟩
    · subst z; cases m1
    · rcases key h2 with z | ⟨h2, k2⟩
      · subst z; cases m2
      · obtain ⟨b, f1, _⟩ := E.own i s d h1 m1
        obtain ⟨c, f2, _⟩ := E.own j t e h2 m2
        have g1 := k1 _ f1
        have g2 := k2 _ f2
        rw [g1] at e1; cases e1
        rw [g2] at e2; cases e2
        exact E.sep i j s t d e _ h1 m1 h2 m2 f1 f2
theorem startOwn {N : List Str} {vs : List V} {as : List Slot} {n : Nat} {a : Addr} (E : EnvOk K H Z (vs.map some) as) (h : OwnA (start N vs) (as ++ List.replicate (N.length - n) .no) a) : OwnA (vs.map some) as a := by
  obtain ⟨i, s, d, h, m, e⟩ := h
  have el : (vs.map some).length = as.length := E.len
  by_cases hi : i < as.length
  · rw [List.getElem?_append_left hi] at h
    unfold L2.start at e
    rw [List.getElem?_append_left (by rw [el]; exact hi)] at e
    exact ⟨i, s, d, h, m, e⟩
  · rw [List.getElem?_append_right (by omega)] at h
    have := List.eq_of_mem_replicate (List.mem_of_getElem? h)
    subst this; cases m
theorem Stp.imp {O O' : Addr → Prop} (s : Stp O H Z H' Z') (h : ∀ a, O a → O' a) : Stp O' H Z H' Z' := ⟨s.zz, fun b o e n => s.fr b o e fun z => n (h b z), fun b o e => (s.nz b o e).imp id (.imp id (h b))⟩
/-- a def's end -/
theorem fn_end {N : List Str} {vs : List V} {as : List Slot} {os : List D} {σ' : St} {ρ' : Ρ} {v : V} {r : RV} (ap : ArgsPlain as) (E : EnvOk K H Z (vs.map some) as)
    (P : PostS K (start N vs) (as ++ List.replicate (N.length - vs.length) .no) H Z σ' ρ' H' Z') (ho : outs as ρ' = some os) (hr : r.isArg = true ∨ ∃ d, r = .fr d) (nb : ∀ i, r ≠ .bw i) (rv : RvOk K H' Z' σ' ρ' v r)
    (nw : ∀ a d, r = .fr d → v = .ref a → H a = none ∨ OwnA (start N vs) (as ++ List.replicate (N.length - vs.length) .no) a) : PostF K vs as os H Z H' Z' v r := by
  have s1 : Stp (OwnA (vs.map some) as) H Z H' Z' := P.stp.imp fun a h => startOwn E h
  -- an in-out argument stands in its slot at the end
  have ioSlot : ∀ {i : Nat} {d' : D}, ρ'[i]? = some (.io d') → i < as.length → σ'[i]? = (vs.map some)[i]? := fun {i d'} h hi => by
    rw [(P.io i d' h).1]
    unfold L2.start
    rw [List.getElem?_append_left (by rw [E.len]; exact hi)]
  have lt : ∀ {i : Nat} {s : Slot}, as[i]? = some s → i < as.length := fun h => (List.getElem?_eq_some_iff.mp h).1
  have own' : ∀ {a : Addr}, OwnA (vs.map some) (putOuts as os) a → OwnA σ' ρ' a := fun {a} ⟨i, s, d, h, m, e⟩ => by
    rcases outs_get ho h with ⟨d1, d2, rfl, h1, h2⟩ | ⟨h1, h2⟩
    · exact ⟨i, _, d1, h2, rfl, by rw [ioSlot h2 (lt h1)]; exact e⟩
    · cases s with
      | no => cases m
      | val _ => cases m
      | own d => exact absurd h1 (ap i d)
      | io d => exact absurd rfl (h2 d)
  refine ⟨s1, ⟨by rw [putOuts_len]; exact E.len, P.env.zh, P.env.zl, fun i d h => ?_, fun i s d h m => ?_, fun i j s t d e a h1 m1 h2 m2 e1 e2 => ?_⟩, ?_⟩
  · rcases outs_get ho h with ⟨d1, d2, z, _⟩ | ⟨h1, _⟩
    · cases z
    · obtain ⟨v, e, r⟩ := E.val i d h1
      exact ⟨v, e, Dp.mono s1.zz r⟩
  · rcases outs_get ho h with ⟨d1, d2, rfl, h1, h2⟩ | ⟨h1, h2⟩
    · cases m
      obtain ⟨a, e, o, z⟩ := P.env.own i _ d h2 rfl
      exact ⟨a, by rw [← ioSlot h2 (lt h1)]; exact e, o, z⟩
    · cases s with
      | no => cases m
      | val _ => cases m
      | own d => exact absurd h1 (ap i d)
      | io d => exact absurd rfl (h2 d)
  · have key : ∀ {i : Nat} {s : Slot} {d : D}, (putOuts as os)[i]? = some s → s.mut = some d → ∃ s2 d2, as[i]? = some s2 ∧ s2.mut = some d2 := fun {i s d} h m => by
      rcases outs_get ho h with ⟨d1, d2, rfl, h1, h2⟩ | ⟨h1, h2⟩
      · exact ⟨_, d2, h1, rfl⟩
      · exact ⟨_, d, h1, m⟩
    obtain ⟨s2, d2, g1, n1⟩ := key h1 m1
    obtain ⟨s3, d3, g2, n2⟩ := key h2 m2
    exact E.sep i j s2 s3 d2 d3 a g1 n1 g2 n2 e1 e2
  · cases rv with
    | fz hd => exact hd
    | fr e o z no =>
      rename_i a d
      refine ⟨a, e, o, z, fun h => no (own' h), ?_⟩
      rcases nw a d rfl e with q | q
      · exact .inl q
      · exact .inr (startOwn E q)
    | bw _ => exact absurd rfl (nb _)
end

/-- a callee as it stands -/
structure Cal (P : Program) (w : World) (K : PySem.W.Frag) (mg : Str → Option Value) (base : Heap) (k : Nat) (x : Str) (F : Fn) : Prop where
  ex : ∃ f fd ps, FnOk P w K mg base CX0 k f fd ps (spF K F) ∧ mg x = some (.ref f) ∧ PySem.W.keepIn K (.ref f) = true ∧ Binds K fd ps []
theorem Cal.mono {P : Program} {w : World} {K : PySem.W.Frag} {mg : Str → Option Value} {base : Heap} {j k : Nat} {x : Str} {F : Fn} (c : Cal P w K mg base j x F) (h : j ≤ k) : Cal P w K mg base k x F := by
  obtain ⟨f, fd, ps, c1, c2, c3, c4⟩ := c.ex
  exact ⟨⟨f, fd, ps, c1.mono h, c2, c3, c4⟩⟩

section
variable {K : PySem.W.Frag} {H Z H' Z' : Hp} {σ : St} {ρ ρ' : Ρ}
theorem argEnv {vs : List V} {rs' : List RV} {as : List Slot} (E : EnvOk K H Z σ ρ) (ra : RasOk K Z σ vs rs') (ha : argSlots ρ rs' = some as) :
    vs.length = as.length ∧ ArgsPlain as ∧ (∀ (p : Nat) (d : D), as[p]? = some (.val d) → ∃ v, vs[p]? = some v ∧ Dp K Z v d) ∧ (∀ (p : Nat) (d : D), as[p]? = some (.io d) → ∃ i s v, i ∈ ioIx ρ rs' ∧ ρ[i]? = some s ∧ s.mut = some d ∧ vs[p]? = some v ∧ σ[i]? = some (some v)) := by
  induction ra generalizing as with
  | nil => cases ha; exact ⟨rfl, fun i d => by simp, fun p d h => by simp at h, fun p d h => by simp at h⟩
  | @cons v vs r rs' h1 h2 ih =>
    have fin : ∀ {s : Slot} {ss : List Slot}, argSlots ρ rs' = some ss → (∀ d, s ≠ .own d) → (∀ d, s = .val d → Dp K Z v d) → (∀ d, s = .io d → ∃ i t, i ∈ ioIx ρ (r :: rs') ∧ ρ[i]? = some t ∧ t.mut = some d ∧ σ[i]? = some (some v)) → (∀ i, i ∈ ioIx ρ rs' → i ∈ ioIx ρ (r :: rs')) →
        (v :: vs).length = (s :: ss).length ∧ ArgsPlain (s :: ss) ∧ (∀ (p : Nat) (d : D), (s :: ss)[p]? = some (.val d) → ∃ u, (v :: vs)[p]? = some u ∧ Dp K Z u d) ∧ (∀ (p : Nat) (d : D), (s :: ss)[p]? = some (.io d) → ∃ i t u, i ∈ ioIx ρ (r :: rs') ∧ ρ[i]? = some t ∧ t.mut = some d ∧ (v :: vs)[p]? = some u ∧ σ[i]? = some (some u)) := fun {s ss} hss n1 n2 n3 n4 => by
      obtain ⟨i1, i2, i3, i4⟩ := ih hss
      refine ⟨by rw [List.length_cons, List.length_cons, i1], fun p d h => ?_, fun p d h => ?_, fun p d h => ?_⟩
      · cases p with
        | zero => exact n1 d (Option.some.inj h)
        | succ p => exact i2 p d h
      · cases p with
        | zero => exact ⟨v, rfl, n2 d (Option.some.inj h)⟩
        | succ p => exact i3 p d h
      · cases p with
        | zero =>
          obtain ⟨i, t, g1, g2, g3, g4⟩ := n3 d (Option.some.inj h)
          exact ⟨i, t, v, g1, g2, g3, rfl, g4⟩
        | succ p =>
          obtain ⟨i, t, u, g1, g2, g3, g4, g5⟩ := i4 p d h
          exact ⟨i, t, u, n4 i g1, g2, g3, g4, g5⟩
    cases h1 with
    | fz hd =>
      obtain ⟨ss, e1, e⟩ := bs (show (argSlots ρ rs').bind _ = some as from ha)
      cases e
      exact fin e1 (fun _ z => nomatch z) (fun d z => by cases z; exact hd) (fun _ z => nomatch z) fun i h => h
    | bw hs =>
      rename_i i
      unfold argSlots at ha
      cases hq : ρ[i]? with
      | none => simp only [hq] at ha; cases ha
      | some s =>
        cases s with
        | no => simp only [hq] at ha; cases ha
        | val d =>
          simp only [hq] at ha
          obtain ⟨ss, e1, e⟩ := bs ha
          cases e
          obtain ⟨v', e', hd⟩ := E.val i d hq
          rw [hs] at e'; cases e'
          refine fin e1 (fun _ z => nomatch z) (fun d z => by cases z; exact hd) (fun _ z => nomatch z) fun j h => ?_
          unfold ioIx; simp only [hq]; exact h
        | own d =>
          simp only [hq] at ha
          obtain ⟨ss, e1, e⟩ := bs ha
          cases e
          have hx : ioIx ρ (.bw i :: rs') = i :: ioIx ρ rs' := by
            show (match ρ[i]? with | some (.own _) => i :: ioIx ρ rs' | some (.io _) => i :: ioIx ρ rs' | _ => ioIx ρ rs') = _
            rw [hq]
          refine fin e1 (fun _ z => nomatch z) (fun d z => nomatch z) (fun d' z => ⟨i, _, by rw [hx]; simp, hq, by cases z; rfl, hs⟩) fun j h => ?_
          rw [hx]; exact List.mem_cons_of_mem _ h
        | io d =>
          simp only [hq] at ha
          obtain ⟨ss, e1, e⟩ := bs ha
          cases e
          have hx : ioIx ρ (.bw i :: rs') = i :: ioIx ρ rs' := by
            show (match ρ[i]? with | some (.own _) => i :: ioIx ρ rs' | some (.io _) => i :: ioIx ρ rs' | _ => ioIx ρ rs') = _
            rw [hq]
          refine fin e1 (fun _ z => nomatch z) (fun d z => nomatch z) (fun d' z => ⟨i, _, by rw [hx]; simp, hq, by cases z; rfl, hs⟩) fun j h => ?_
          rw [hx]; exact List.mem_cons_of_mem _ h
/-- how many in-out slots an argument list has -/
def ioCount : List Slot → Nat
  | [] => 0
  | .io _ :: r => ioCount r + 1
  | _ :: r => ioCount r
theorem argCount : ∀ {rs' : List RV} {as : List Slot}, argSlots ρ rs' = some as → ioCount as = (ioIx ρ rs').length
  | [], _, h => by cases h; rfl
  | .fz d :: r, _, h => by
    obtain ⟨ss, e1, e⟩ := bs (show (argSlots ρ r).bind _ = some _ from h)
    cases e
    show ioCount ss = (ioIx ρ r).length
    exact argCount e1
  | .fr d :: r, _, h => by cases h
  | .bw i :: r, as, h => by
    unfold argSlots at h
    unfold ioIx
    cases hq : ρ[i]? with
    | none => simp only [hq] at h; cases h
    | some s =>
      cases s with
      | no => simp only [hq] at h; cases h
      | val d =>
        simp only [hq] at h ⊢
        obtain ⟨ss, e1, e⟩ := bs h
        cases e; show ioCount ss = _; exact argCount e1
      | own d =>
        simp only [hq] at h ⊢
        obtain ⟨ss, e1, e⟩ := bs h
        cases e; show ioCount ss + 1 = _; rw [argCount e1]; rfl
      | io d =>
        simp only [hq] at h ⊢
        obtain ⟨ss, e1, e⟩ := bs h
        cases e; show ioCount ss + 1 = _; rw [argCount e1]; rfl
theorem ioCount_pos : ∀ {as : List Slot} {p : Nat} {d : D}, as[p]? = some (.io d) → 1 ≤ ioCount as
  | s :: as, 0, d, h => by
    have h : some s = some (Slot.io d) := h
    cases h; show 1 ≤ ioCount as + 1; omega
  | s :: as, p + 1, d, h => by
    have := ioCount_pos (as := as) (p := p) h
    cases s <;> show 1 ≤ _ <;> simp only [ioCount] <;> omega
  | [], p, d, h => by simp at h
theorem ioCount_one : ∀ {as : List Slot} {p q : Nat} {d e : D}, ioCount as ≤ 1 → as[p]? = some (.io d) → as[q]? = some (.io e) → p = q
  | s :: as, 0, 0, _, _, _, _, _ => rfl
  | s :: as, 0, q + 1, d, e, hc, h1, h2 => by
    have h1 : some s = some (Slot.io d) := h1
    cases h1
    have := ioCount_pos (as := as) (p := q) h2
    have hc : ioCount as + 1 ≤ 1 := hc
    omega
  | s :: as, p + 1, 0, d, e, hc, h1, h2 => by
    have h2 : some s = some (Slot.io e) := h2
    cases h2
    have := ioCount_pos (as := as) (p := p) h1
    have hc : ioCount as + 1 ≤ 1 := hc
    omega
  | s :: as, p + 1, q + 1, d, e, hc, h1, h2 => by
    have hc' : ioCount as ≤ 1 := by cases s <;> simp only [ioCount] at hc <;> omega
    rw [ioCount_one hc' h1 h2]
  | [], p, q, _, _, _, h1, _ => by simp at h1
theorem ioNone : ∀ {as : List Slot} {p : Nat} {d : D}, ioCount as = 0 → as[p]? ≠ some (.io d) := fun h e => by
  have := ioCount_pos e; omega
theorem putOuts_io : ∀ {as : List Slot} {p : Nat} {d0 d : D}, ioCount as ≤ 1 → as[p]? = some (.io d0) → (putOuts as [d])[p]? = some (.io d)
  | s :: as, 0, d0, d, hc, h => by
    have h : some s = some (Slot.io d0) := h
    cases h; rfl
  | s :: as, p + 1, d0, d, hc, h => by
    have hp := ioCount_pos (as := as) (p := p) h
    cases s with
    | io x => have hc : ioCount as + 1 ≤ 1 := hc; omega
    | no => exact putOuts_io (as := as) hc h
    | val x => exact putOuts_io (as := as) hc h
    | own x => exact putOuts_io (as := as) hc h
  | [], p, _, _, _, h => by simp at h
theorem putIo_eq {is : List Nat} {ds : List D} {ρ2 : Ρ} (h : putIo ρ is ds = some ρ2) : (is = [] ∧ ds = [] ∧ ρ2 = ρ) ∨ ∃ i d, is = [i] ∧ ds = [d] ∧ putAt ρ i d = some ρ2 := by
  match is, ds, h with
  | [], [], h => cases h; exact .inl ⟨rfl, rfl, rfl⟩
  | [i], [d], h => exact .inr ⟨i, d, rfl, rfl, h⟩
  | [], _ :: _, h => cases h
  | [_], [], h => cases h
  | [_], _ :: _ :: _, h => cases h
  | _ :: _ :: _, _, h => cases h
theorem tE_call {F : Fn} {fs : AF} {E : XK} {Q : VK} (h : tE K (fCall F fs) σ H Q) : tCall (spF K F) [] E (tA K fs) σ H Q := by
  obtain ⟨Z, ρ, r, ρ', E0, e, q⟩ := h
  obtain ⟨⟨rs', ρ1⟩, e1, e⟩ := bs e
  obtain ⟨as, e2, e⟩ := bs e
  obtain ⟨⟨r', os⟩, e3, e⟩ := bs e
  obtain ⟨ρ2, e4, e⟩ := bs e
  dsimp only at e2 e3 e4 e
  refine ⟨Z, ρ, rs', ρ1, E0, e1, fun vs H1 Z1 s1 E1 o1 ra => ?_⟩
  show spF K F (vs ++ []) H1 Q E
  rw [List.append_nil]
  obtain ⟨a1, a2, a3, a4⟩ := argEnv E1 ra e2
  have ac := argCount e2
  have c1 : (ioIx ρ1 rs').length ≤ 1 := by
    rcases putIo_eq e4 with ⟨h, _, _⟩ | ⟨i, d, h, _, _⟩
    · rw [h]; simp
    · rw [h]; simp
  have c2 : ioCount as ≤ 1 := by omega
  have EA : EnvOk K H1 Z1 (vs.map some) as := by
    refine ⟨by rw [List.length_map]; exact a1, E1.zh, E1.zl, fun p d h => ?_, fun p s d h m => ?_, fun p p' s t d e a h1 m1 h2 m2 f1 f2 => ?_⟩
    · obtain ⟨v, g1, g2⟩ := a3 p d h
      exact ⟨v, by rw [List.getElem?_map, g1]; rfl, g2⟩
    · cases s with
      | no => cases m
      | val _ => cases m
      | own d => exact absurd h (a2 p d)
      | io d' =>
        cases m
        obtain ⟨i, t, v, g1, g2, g3, g4, g5⟩ := a4 p d h
        obtain ⟨a, f1, f2, f3⟩ := E1.own i t d g2 g3
        rw [g5] at f1; cases f1
        exact ⟨a, by rw [List.getElem?_map, g4]; rfl, f2, f3⟩
    · have io : ∀ {p : Nat} {s : Slot} {d : D}, as[p]? = some s → s.mut = some d → as[p]? = some (.io d) := fun {p s d} h m => by
        cases s with
        | no => cases m
        | val _ => cases m
        | own d => exact absurd h (a2 p d)
        | io d' => cases m; exact h
      exact ioCount_one c2 (io h1 m1) (io h2 m2)
  -- what the callee owns, the caller owns
  have own1 : ∀ a, OwnA (vs.map some) as a → OwnA σ ρ1 a := fun a ⟨p, s, d, h, m, g⟩ => by
    cases s with
    | no => cases m
    | val _ => cases m
    | own d => exact absurd h (a2 p d)
    | io d' =>
      obtain ⟨i, t, v, g1, g2, g3, g4, g5⟩ := a4 p d' h
      rw [List.getElem?_map, g4] at g
      cases g
      exact ⟨i, t, d', g2, g3, g5⟩
  refine ⟨Z1, as, r', os, a2, EA, e3, fun v H2 Z2 P => ?_⟩
  have s2 : Stp (OwnA σ ρ1) H1 Z1 H2 Z2 := P.stp.imp own1
  -- the environment behind the call
  have fin : EnvOk K H2 Z2 σ ρ2 ∧ Ow σ ρ1 ρ2 ∧ ∀ a, OwnA σ ρ2 a → OwnA (vs.map some) (putOuts as os) a ∨ (OwnA σ ρ1 a ∧ ¬ OwnA (vs.map some) as a) := by
    rcases putIo_eq e4 with ⟨hx, ho, rfl⟩ | ⟨i, d, hx, ho, e4'⟩
    · have c0 : ioCount as = 0 := by rw [ac, hx]; rfl
      have no : ∀ a, ¬ OwnA (vs.map some) as a := fun a ⟨p, s, d, h, m, g⟩ => by
        cases s with
        | no => cases m
        | val _ => cases m
        | own d => exact a2 p d h
        | io d' => exact ioNone c0 h
      refine ⟨E1.step P.stp.zz P.env.zh P.env.zl fun a ha => ⟨fun o ho => P.stp.fr a o ho (no a), ?_⟩, .refl, fun a ha => .inr ⟨ha, no a⟩⟩
      obtain ⟨i, s, d, h, m, g⟩ := ha
      obtain ⟨a', g', o, z⟩ := E1.own i s d h m
      rw [g] at g'; cases g'
      exact P.stp.nonZ z o.sm (no a)
    · subst ho
      obtain ⟨s, t, d0, hs, hm, rfl, ht, hio⟩ := putAt_eq e4'
      obtain ⟨a, ea, oa, za⟩ := E1.own i s d0 hs hm
      have hcount : ioCount as = 1 := by rw [ac, hx]; rfl
      -- the argument's place
      have ⟨p, dp, hp⟩ : ∃ (p : Nat) (dp : D), as[p]? = some (.io dp) := by
        have aux : ∀ {as : List Slot}, ioCount as = 1 → ∃ (p : Nat) (dp : D), as[p]? = some (.io dp) := fun {as} => by
          induction as with
          | nil => intro h; cases h
          | cons s as ih =>
            intro h
            cases s with
            | io x => exact ⟨0, x, rfl⟩
            | no => obtain ⟨p, dp, hp⟩ := ih h; exact ⟨p + 1, dp, hp⟩
            | val x => obtain ⟨p, dp, hp⟩ := ih h; exact ⟨p + 1, dp, hp⟩
            | own x => obtain ⟨p, dp, hp⟩ := ih h; exact ⟨p + 1, dp, hp⟩
        exact aux hcount
      obtain ⟨i', t', v', g1, g2, g3, g4, g5⟩ := a4 p dp hp
      rw [hx] at g1
      have ei : i' = i := by simpa using g1
      rw [ei] at g2 g5
      rw [ea] at g5; cases g5
      have hout := putOuts_io (d := d) c2 hp
      obtain ⟨b, eb, ob, zb⟩ := P.env.own p _ d hout rfl
      rw [List.getElem?_map, g4] at eb
      cases eb
      have only : ∀ b, OwnA (vs.map some) as b → b = a := fun b ⟨p', s', d', h, m, g⟩ => by
        cases s' with
        | no => cases m
        | val _ => cases m
        | own d => exact absurd h (a2 p' d)
        | io d'' =>
          have := ioCount_one c2 hp h
          subst this
          rw [List.getElem?_map, g4] at g
          cases g; rfl
      have rest : ∀ {j : Nat} {s' : Slot} {d' : D} {b : Addr}, j ≠ i → ρ1[j]? = some s' → s'.mut = some d' → σ[j]? = some (some (.ref b)) → ¬ OwnA (vs.map some) as b := fun {j s' d' b} n h m g z => by
        have := only b z
        subst this
        exact n (E1.sep j i s' s d' d0 _ h m hs hm g ea)
      refine ⟨⟨by rw [List.length_set]; exact E1.len, P.env.zh, P.env.zl, fun j d' h => ?_, fun j s' d' h m => ?_, fun j k s' t'' d' e' b h1 m1 h2 m2 f1 f2 => ?_⟩, .put (d := d) hs hm hio, fun b hb => ?_⟩
      · rcases getSet h with ⟨_, z, _⟩ | ⟨_, h⟩
        · rw [← z] at ht; cases ht
        · obtain ⟨v, f1, f2⟩ := E1.val j d' h
          exact ⟨v, f1, Dp.mono P.stp.zz f2⟩
      · rcases getSet h with ⟨rfl, z, _⟩ | ⟨n, h⟩
        · rw [z, ht] at m; cases m
          exact ⟨a, ea, ob, zb⟩
        · obtain ⟨b, f1, f2, f3⟩ := E1.own j s' d' h m
          have nb := rest n h m f1
          exact ⟨b, f1, f2.mono (fun o ho => P.stp.fr b o ho nb) P.stp.zz, P.stp.nonZ f3 f2.sm nb⟩
      · have key : ∀ {j : Nat} {s' : Slot} {d' : D}, (ρ1.set i t)[j]? = some s' → s'.mut = some d' → ∃ s2 d2, ρ1[j]? = some s2 ∧ s2.mut = some d2 := fun {j s' d'} h m => by
          rcases getSet h with ⟨rfl, _, _⟩ | ⟨_, h⟩
          · exact ⟨s, d0, hs, hm⟩
          · exact ⟨s', d', h, m⟩
        obtain ⟨s2, d2, g1, n1⟩ := key h1 m1
        obtain ⟨s3, d3, g2, n2⟩ := key h2 m2
        exact E1.sep j k s2 s3 d2 d3 b g1 n1 g2 n2 f1 f2
      · obtain ⟨j, s', d', h, m, g⟩ := hb
        rcases getSet h with ⟨rfl, z, _⟩ | ⟨n, h⟩
        · rw [ea] at g; cases g
          exact .inl ⟨p, _, d, hout, rfl, by rw [List.getElem?_map, g4]; rfl⟩
        · exact .inr ⟨⟨j, s', d', h, m, g⟩, rest n h m g⟩
  obtain ⟨E2, o2, f2⟩ := fin
  have P' : Post K σ ρ1 ρ2 H1 Z1 H2 Z2 v r' := by
    have hr := P.rv
    refine ⟨s2, E2, o2, ?_, fun a d e1 e2 => ?_⟩
    · cases r' with
      | fz d => exact .fz hr
      | fr d =>
        obtain ⟨a, g1, g2, g3, g4, g5⟩ := hr
        refine .fr g1 g2 g3 fun h => ?_
        rcases f2 a h with z | ⟨z1, z2⟩
        · exact g4 z
        · rcases g5 with z | z
          · exact E1.notOwn z z1
          · exact z2 z
      | bw i => exact hr.elim
    · subst e1
      obtain ⟨b, g1, g2, g3, g4, g5⟩ := hr
      rw [g1] at e2; cases e2
      exact g5.imp id (own1 a)
  cases r' with
  | fz d => cases e; exact q v H2 Z2 (Post.trans s1 o1 P')
  | fr d => cases e; exact q v H2 Z2 (Post.trans s1 o1 P')
  | bw i => cases e
end

section
variable {X : Cx} {k : Nat} {x : Str} {p pos : Pos} {e : Expr} {es : List Expr} {F : Fn} {fs : AF}
theorem ev_call (c : Cal X.prog X.w X.K X.mg X.base k x F) (hr : Room k X.A) (hg : Gl X x) (ha : EvA X (e :: es) fs) (hdb : (x == ("__debug__" : Str)) = false := by decide)
    (he : starEach (e :: es) X.env = (false, eval e X.env) :: starEach es X.env := by rfl) (hpl : (backTo pos (starEach es X.env)).any (·.1) = false := by rfl) : EvE X (.Call (.Name x p) (e :: es) [] pos) (fCall F fs) := by
  obtain ⟨f, fd, ps, c1, c2, c3, c4⟩ := c.ex
  exact ⟨peImp (pe_call c1 hr hg c2 c3 c4 .nil pass0 ha.pa hdb he hpl) fun σ H Q h => tE_call h⟩
end
/-- a def of the text keeps its pure function's promise -/
theorem fn_ok {P : Program} {w : World} {K : PySem.W.Frag} {mg : Str → Option Value} {base : Heap} {x qual : Str} {st : Stmt} {f : Addr} {fd : FuncData} {N ps : List Str} {k : Nat} {body : SF} (Fd : L2.Fun K x qual st f fd) (S : FnScope N ps (defScope st))
    (hbody : ∀ (cdv : Value) (A : Around) (outer : List Env) (s : Shared) (H : Hp) (E : XK), Room k (A.deeper (envOfC qual (defScope st) s.heap.objs.size f cdv)) →
      EvB (cxOf CX0 P w K mg base N qual (defScope st) f cdv A outer s H E).nox (defBody st) body) : FnOk P w K mg base CX0 (k + 1) f fd ps (spF K (fnOf ps.length N.length body)) := by
  have len : ∀ {vs : List V} {as : List Slot} {r : RV} {os : List D} {H Z : Hp}, EnvOk K H Z (vs.map some) as → fnOf ps.length N.length body as = some (r, os) → vs.length = ps.length ∧ as.length = ps.length := fun {vs as r os H Z} E e => by
    unfold fnOf at e
    split at e
    · rename_i h
      have := E.len
      rw [List.length_map] at this
      exact ⟨this.trans h, h⟩
    · cases e
  refine Fd.ok S (fun vs H Q E h => ?_) (fun cdv A outer s H vs Q E hr h => ⟨_, (hbody cdv A outer s H E hr).pss, ?_⟩)
  · obtain ⟨Z, as, r, os, ap, E, e, _⟩ := h
    exact (len E e).1
  · obtain ⟨Z, as, r, os, ap, E, e, q⟩ := h
    obtain ⟨l1, l2⟩ := len E e
    have e : (if as.length = ps.length then (body (as ++ List.replicate (N.length - ps.length) .no)).bind _ else none) = some (r, os) := e
    rw [if_pos l2] at e
    obtain ⟨⟨c, ρ'⟩, e1, e⟩ := bs e
    obtain ⟨o, e2, e⟩ := bs e
    have E1 := startEnv (N := N) E l1
    refine ⟨Z, _, c, ρ', E1, e1, fun σ' H' Z' P => ?_⟩
    rw [← l1] at P
    cases c with
    | nx => cases e; exact q .non H' Z' (fn_end ap E P e2 (.inl rfl) (fun _ z => nomatch z) (.fz .non) fun _ _ z => nomatch z)
    | bk => cases e
    | rt r' =>
      cases r' with
      | fz d =>
        cases e
        intro v rv nw
        rw [← l1] at nw
        exact q v H' Z' (fn_end ap E P e2 (.inl rfl) (fun _ z => nomatch z) rv nw)
      | fr d =>
        cases e
        intro v rv nw
        rw [← l1] at nw
        exact q v H' Z' (fn_end ap E P e2 (.inr ⟨d, rfl⟩) (fun _ z => nomatch z) rv nw)
      | bw i => cases e
end Ev


set_option Elab.async false
set_option linter.all false
set_option maxRecDepth 100000
/-! Ev6: operations on data. -/
namespace Ev
open PySem PySem.Spec L2
open PyProof.Rows hiding St

/-! ### pure operations -/
def mulOk (i j : Int) : Bool := decide (i.natAbs < 2 ^ 64) || decide (j.natAbs < 2 ^ 64) || decide (i.natAbs.log2 + j.natAbs.log2 < 1000000)
def divOk (j : Int) : Bool := decide (j ≠ 0) && decide (j.natAbs.log2 < 9000)
def rI (i : Int) : Option RV := some (.fz (.int i))
def rB (b : Bool) : Option RV := some (.fz (.bool b))
def catLen (n m : Nat) : Bool := decide (n + m ≤ sizeLine)
def addD : D → D → Option RV
  | .int i, .int j => rI (i + j)
  | .str x, .str y => if x.length + y.length ≤ sizeLine then some (.fz (.str (x ++ y))) else none
  | .list xs, .list ys => if xs.length + ys.length ≤ sizeLine then some (.fr (.list (xs ++ ys))) else none
  | .tuple xs, .tuple ys => if xs.length + ys.length ≤ sizeLine then some (.fz (.tuple (xs ++ ys))) else none
  | _, _ => none
def subD : D → D → Option RV
  | .int i, .int j => rI (i - j)
  | _, _ => none
def mulI : D → D → Option RV
  | .int i, .int j => if mulOk i j = true then rI (i * j) else none
  | _, _ => none
def fdivD : D → D → Option RV
  | .int i, .int j => if divOk j = true then rI (i.fdiv j) else none
  | _, _ => none
def modD : D → D → Option RV
  | .int i, .int j => if j ≠ 0 then rI (i.fmod j) else none
  | _, _ => none
def powD : D → D → Option RV
  | .int i, .int j => if (decide (0 ≤ j) && decide (j ≤ 1000000) && decide (i.natAbs < 2 ^ 64)) = true then rI (i ^ j.toNat) else none
  | _, _ => none
def negD : D → Option RV
  | .int i => rI (-i)
  | _ => none
def eqD (d e : D) : Option RV := if (SeqAt.shaped d && SeqAt.shaped e) = true then rB (PyData.eqv d e) else none
def neD (d e : D) : Option RV := if (SeqAt.shaped d && SeqAt.shaped e) = true then rB (!PyData.eqv d e) else none
def cmpD (p : Int → Int → Bool) : D → D → Option RV
  | .int i, .int j => rB (p i j)
  | _, _ => none
abbrev ltD := cmpD fun i j => decide (i < j)
abbrev leD := cmpD fun i j => decide (i ≤ j)
abbrev gtD := cmpD fun i j => decide (j < i)
abbrev geD := cmpD fun i j => decide (j ≤ i)
def isN : D → D → Option RV := fun d e => match e with
  | .none => rB (match d with | .none => true | _ => false)
  | _ => none
def notN : D → D → Option RV := fun d e => match e with
  | .none => rB (match d with | .none => false | _ => true)
  | _ => none
def inD (neg : Bool) : D → D → Option RV := fun d e => match e with
  | .list ds => if (SeqAt.shaped d && SeqAt.shaped (.list ds)) = true then rB (neg != ds.any fun z => PyData.eqv z d) else none
  | .tuple ds => if (SeqAt.shaped d && SeqAt.shaped (.tuple ds)) = true then rB (neg != ds.any fun z => PyData.eqv z d) else none
  | _ => none
def atD (ds : List D) (i : Int) : Option D := (ixN ds.length i).bind fun j => ds[j]?
def ixD : D → D → Option RV
  | .list ds, .int i => (atD ds i).bind fun d => some (.fz d)
  | .tuple ds, .int i => (atD ds i).bind fun d => some (.fz d)
  | .str x, .int i => if x.length ≤ sizeLine then (atI x.cps.toList i).bind fun c => some (.fz (.str ⟨#[c]⟩)) else none
  | _, _ => none
def lenD : List D → Option RV
  | [.list ds] => rI ds.length
  | [.tuple ds] => rI ds.length
  | [.str x] => if x.length ≤ sizeLine then rI x.length else none
  | _ => none
def absD : List D → Option RV
  | [.int i] => rI (if i < 0 then -i else i)
  | _ => none
def min2D : List D → Option RV
  | [.int i, .int j] => rI (if j < i then j else i)
  | _ => none
def max2D : List D → Option RV
  | [.int i, .int j] => rI (if j > i then j else i)
  | _ => none
def intD : List D → Option RV
  | [.int i] => rI i
  | [.bool b] => rI (if b then 1 else 0)
  | _ => none
def listD : List D → Option RV
  | [.list ds] => if ds.length ≤ sizeLine then some (.fr (.list ds)) else none
  | [.tuple ds] => if ds.length ≤ sizeLine then some (.fr (.list ds)) else none
  | _ => none
def tupleD : List D → Option RV
  | [.list ds] => if ds.length ≤ sizeLine then some (.fz (.tuple ds)) else none
  | [.tuple ds] => some (.fz (.tuple ds))
  | _ => none
def intsOf : List D → Option (List Int)
  | [] => some []
  | .int i :: r => (intsOf r).bind fun is => some (i :: is)
  | _ => none
def sumD : List D → Option RV
  | [.list ds] => (intsOf ds).bind fun is => rI is.sum
  | _ => none
def tyOf : D → String
  | .none => "NoneType"
  | .bool _ => "bool"
  | .int _ => "int"
  | .str _ => "str"
  | .list _ => "list"
  | .tuple _ => "tuple"
  | .dict _ => "dict"

section
variable {X : Cx}
theorem opImp {f : Value → Value → Sem Value} {r r' : R2} (h : OpR X f r) (i : ∀ x y H Q, r' x y H Q → r x y H Q) : OpR X f r' := fun pins s σ H x y v u Q I rx ry q => h pins s σ H x y v u Q I rx ry (i x y H Q q)
theorem ixImp {r r' : R2} (h : IxR X r) (i : ∀ x y H Q, r' x y H Q → r x y H Q) : IxR X r' := fun value slice pins s σ H x y v u Q I rx ry q => h value slice pins s σ H x y v u Q I rx ry (i x y H Q q)
theorem unImp {f : Value → Sem Value} {r r' : V → Hp → VK → Prop} (h : UnR X f r) (i : ∀ x H Q, r' x H Q → r x H Q) : UnR X f r' := fun pins s σ H x v Q I rx q => h pins s σ H x v Q I rx (i x H Q q)
theorem callImp {f : Value} {r r' : List V → Hp → VK → Prop} (h : CallR X f r) (i : ∀ xs H Q, r' xs H Q → r xs H Q) : CallR X f r' := fun pins s σ H xs us Q I r q => h pins s σ H xs us Q I r (i xs H Q q)
/-- two ints -/
theorem op2I {f : Value → Value → Sem Value} {g : D → D → Option RV} {C : Int → Int → Prop} {k : Int → Int → V} {kd : Int → Int → D} (h : OpR X f (L2.rI C k)) (hk : ∀ Z i j, Dp X.K Z (k i j) (kd i j))
    (hg : ∀ d e r, g d e = some r → ∃ i j, d = .int i ∧ e = .int j ∧ C i j ∧ r = .fz (kd i j)) : OpR X f (rOp2 X.K g) := opImp h fun x y H Q ⟨Z, d, e, r, zh, zl, hx, hy, er, q⟩ => by
  obtain ⟨i, j, rfl, rfl, c, rfl⟩ := hg d e r er
  exact ⟨i, j, hx.int, hy.int, c, q _ H Z (.same zh zl (hk Z i j))⟩
theorem op2I0 {f : Value → Value → Sem Value} {g : D → D → Option RV} {k : Int → Int → V} {kd : Int → Int → D} (h : OpR X f (rI0 k)) (hk : ∀ Z i j, Dp X.K Z (k i j) (kd i j))
    (hg : ∀ d e r, g d e = some r → ∃ i j, d = .int i ∧ e = .int j ∧ r = .fz (kd i j)) : OpR X f (rOp2 X.K g) := opImp h fun x y H Q ⟨Z, d, e, r, zh, zl, hx, hy, er, q⟩ => by
  obtain ⟨i, j, rfl, rfl, rfl⟩ := hg d e r er
  exact ⟨i, j, hx.int, hy.int, q _ H Z (.same zh zl (hk Z i j))⟩
theorem o_sub : OpR X (binaryOp .Sub) (rOp2 X.K subD) := op2I0 op_sub (fun _ i j => .int (i - j)) fun d e r h => by
  unfold subD at h
  split at h
  · cases h; exact ⟨_, _, rfl, rfl, rfl⟩
  · cases h
theorem o_isub : OpR X (inplaceOp .Sub) (rOp2 X.K subD) := op2I0 iop_sub (fun _ i j => .int (i - j)) fun d e r h => by
  unfold subD at h
  split at h
  · cases h; exact ⟨_, _, rfl, rfl, rfl⟩
  · cases h
theorem mulOk_ok {i j : Int} (h : mulOk i j = true) : IntMulOk i j := by
  unfold mulOk at h
  rcases Bool.or_eq_true_iff.mp h with h | h
  · rcases Bool.or_eq_true_iff.mp h with h | h
    · have := of_decide_eq_true h
      exact CMul.ok (.inl ⟨by omega, by omega⟩)
    · have := of_decide_eq_true h
      exact CMul.ok (.inr ⟨by omega, by omega⟩)
  · have h2 : i.natAbs.log2 + j.natAbs.log2 < 1000000 := of_decide_eq_true h
    exact CMulW.ok h2
theorem mulI_inv {d e : D} {r : RV} (h : mulI d e = some r) : ∃ i j, d = .int i ∧ e = .int j ∧ mulOk i j = true ∧ r = .fz (.int (i * j)) := by
  unfold mulI at h
  split at h
  · split at h
    · rename_i hm; cases h; exact ⟨_, _, rfl, rfl, hm, rfl⟩
    · cases h
  · cases h
theorem o_mulI : OpR X (binaryOp .Mult) (rOp2 X.K mulI) := op2I (opI (C := fun i j => mulOk i j = true) (g := fun i j => i * j) fun _ _ _ _ _ _ _ hc q => mul_int q (mulOk_ok hc)) (fun _ i j => .int (i * j)) fun d e r h => mulI_inv h
theorem o_imul : OpR X (inplaceOp .Mult) (rOp2 X.K mulI) := op2I (opI (C := fun i j => mulOk i j = true) (g := fun i j => i * j) fun _ _ _ _ _ _ _ hc q => imul_int q (mulOk_ok hc)) (fun _ i j => .int (i * j)) fun d e r h => mulI_inv h
theorem fdivD_inv {d e : D} {r : RV} (h : fdivD d e = some r) : ∃ i j, d = .int i ∧ e = .int j ∧ divOk j = true ∧ r = .fz (.int (i.fdiv j)) := by
  unfold fdivD at h
  split at h
  · split at h
    · rename_i hm; cases h; exact ⟨_, _, rfl, rfl, hm, rfl⟩
    · cases h
  · cases h
theorem o_fdiv : OpR X (binaryOp .FloorDiv) (rOp2 X.K fdivD) := op2I (opI (C := fun _ j => divOk j = true) (g := fun i j => i.fdiv j) fun _ _ _ _ _ _ _ hc q =>
  floordiv_int (of_decide_eq_true (Bool.and_eq_true_iff.mp hc).1) q (.inl (PyProof.noPylong_of_log2 (of_decide_eq_true (Bool.and_eq_true_iff.mp hc).2)))) (fun _ i j => .int (i.fdiv j)) fun d e r h => fdivD_inv h
theorem o_ifdiv : OpR X (inplaceOp .FloorDiv) (rOp2 X.K fdivD) := op2I (opI (C := fun _ j => divOk j = true) (g := fun i j => i.fdiv j) fun _ _ _ _ _ _ _ hc q =>
  ifloordiv_int (of_decide_eq_true (Bool.and_eq_true_iff.mp hc).1) q (.inl (PyProof.noPylong_of_log2 (of_decide_eq_true (Bool.and_eq_true_iff.mp hc).2)))) (fun _ i j => .int (i.fdiv j)) fun d e r h => fdivD_inv h
theorem o_mod : OpR X (binaryOp .Mod) (rOp2 X.K modD) := op2I op_modN (fun _ i j => .int (i.fmod j)) fun d e r h => by
  unfold modD at h
  split at h
  · split at h
    · rename_i hm; cases h; exact ⟨_, _, rfl, rfl, hm, rfl⟩
    · cases h
  · cases h
theorem o_pow : OpR X (binaryOp .Pow) (rOp2 X.K powD) := op2I op_pow (fun _ i j => .int (i ^ j.toNat)) fun d e r h => by
  unfold powD at h
  split at h
  · split at h
    · rename_i hm
      cases h
      obtain ⟨h1, h3⟩ := Bool.and_eq_true_iff.mp hm
      obtain ⟨h1, h2⟩ := Bool.and_eq_true_iff.mp h1
      exact ⟨_, _, rfl, rfl, ⟨of_decide_eq_true h1, of_decide_eq_true h2, of_decide_eq_true h3⟩, rfl⟩
    · cases h
  · cases h
theorem o_neg : UnR X (unaryOp .USub) (rOp1 X.K negD) := unImp un_neg fun x H Q ⟨Z, d, r, zh, zl, hx, er, q⟩ => by
  unfold negD at er
  split at er
  · cases er; exact ⟨_, hx.int, q _ H Z (.same zh zl (.int _))⟩
  · cases er
theorem cmpD_inv {p : Int → Int → Bool} {d e : D} {r : RV} (h : cmpD p d e = some r) : ∃ i j, d = .int i ∧ e = .int j ∧ r = .fz (.bool (p i j)) := by
  unfold cmpD at h
  split at h
  · cases h; exact ⟨_, _, rfl, rfl, rfl⟩
  · cases h
theorem o_lt : OpR X (compareOp .Lt) (rOp2 X.K ltD) := op2I0 op_lt (fun _ i j => .bl _) fun d e r h => cmpD_inv h
theorem o_le : OpR X (compareOp .LtE) (rOp2 X.K leD) := op2I0 op_le (fun _ i j => .bl _) fun d e r h => cmpD_inv h
theorem o_gt : OpR X (compareOp .Gt) (rOp2 X.K gtD) := op2I0 op_gt (fun _ i j => .bl _) fun d e r h => cmpD_inv h
theorem o_ge : OpR X (compareOp .GtE) (rOp2 X.K geD) := op2I0 op_ge (fun _ i j => .bl _) fun d e r h => cmpD_inv h
theorem shaped_nodict {d : D} (h : SeqAt.shaped d = true) : ∀ kvs, d ≠ .dict kvs := fun kvs e => by
  subst e
  have := SeqAt.canLay_of_shaped h
  simp [PyData.canLay0] at this
theorem o_eq (hu : X.A.units + 64 < cLine) : OpR X (compareOp .Eq) (rOp2 X.K eqD) := opImp (op_eqD hu) fun x y H Q ⟨Z, d, e, r, zh, zl, hx, hy, er, q⟩ => by
  unfold eqD at er
  split at er
  · rename_i hs
    obtain ⟨h1, h2⟩ := Bool.and_eq_true_iff.mp hs
    cases er
    exact ⟨d, e, hx.dp zh (shaped_nodict h1), hy.dp zh (shaped_nodict h2), h1, h2, q _ H Z (.same zh zl (.bl _))⟩
  · cases er
theorem o_ne (hu : X.A.units + 64 < cLine) : OpR X (compareOp .NotEq) (rOp2 X.K neD) := opImp (op_neD hu) fun x y H Q ⟨Z, d, e, r, zh, zl, hx, hy, er, q⟩ => by
  unfold neD at er
  split at er
  · rename_i hs
    obtain ⟨h1, h2⟩ := Bool.and_eq_true_iff.mp hs
    cases er
    exact ⟨d, e, hx.dp zh (shaped_nodict h1), hy.dp zh (shaped_nodict h2), h1, h2, q _ H Z (.same zh zl (.bl _))⟩
  · cases er
theorem dp_none {K : PySem.W.Frag} {H Z : Hp} {v : V} {d : D} (h : Sh K H Z v d) : decide (v = .non) = (match d with | .none => true | _ => false) := by
  rcases h with h | ⟨a, rfl, h⟩
  · cases h <;> rfl
  · cases h <;> rfl
theorem o_is : OpR X (compareOp .Is) (rOp2 X.K isN) := opImp op_isN fun x y H Q ⟨Z, d, e, r, zh, zl, hx, hy, er, q⟩ => by
  unfold isN at er
  split at er
  · cases er
    refine ⟨hy.non, ?_⟩
    rw [dp_none hx]
    refine q _ H Z (.same zh zl ?_)
    cases d <;> exact .bl _
  · cases er
theorem o_isnot : OpR X (compareOp .IsNot) (rOp2 X.K notN) := opImp op_notN fun x y H Q ⟨Z, d, e, r, zh, zl, hx, hy, er, q⟩ => by
  unfold notN at er
  split at er
  · cases er
    refine ⟨hy.non, ?_⟩
    rw [dp_none hx]
    refine q _ H Z (.same zh zl ?_)
    cases d <;> exact .bl _
  · cases er
theorem room1 {A : Around} {da db : PyData} (h : SeqAt.shaped db = true) (hu : A.units + 65 < cLine) : A.units + 1 + min (da.depth) db.depth < cLine := by
  have := SeqAt.depth_of_shaped h
  have h2 : min da.depth db.depth ≤ db.depth := Nat.min_le_right _ _
  omega
theorem o_in (hu : X.A.units + 65 < cLine) : OpR X (compareOp .In) (rOp2 X.K (inD false)) := fun pins s σ H x y v u Q I rx ry ⟨Z, d, e, r, zh, zl, hx, hy, er, q⟩ => by
  unfold inD at er
  split at er
  · rename_i ds
    split at er
    · rename_i hs
      obtain ⟨h1, h2⟩ := Bool.and_eq_true_iff.mp hs
      cases er
      refine op_inD hu pins s σ H x y v u Q I rx ry ⟨d, ds, hx.dp zh (shaped_nodict h1), hy.dp zh (shaped_nodict h2), h1, h2, ?_⟩
      rw [show (ds.any fun z => PyData.eqv z d) = (false != ds.any fun z => PyData.eqv z d) by simp]
      exact q _ H Z (.same zh zl (.bl _))
    · cases er
  · rename_i ds
    split at er
    · rename_i hs
      obtain ⟨h1, h2⟩ := Bool.and_eq_true_iff.mp hs
      cases er
      obtain ⟨as, r1⟩ := Dp.reads I d x v (hx.dp zh (shaped_nodict h1)) rx
      obtain ⟨bs, r2⟩ := Dp.reads I _ y u (hy.dp zh (shaped_nodict h2)) ry
      refine SeqAt.in_tuple_reads r2 r1 (SeqAt.canLay_of_shaped h2) (SeqAt.canLay_of_shaped h1) (by
        have := SeqAt.depth_of_shaped h1
        have h3 : min (PyData.depthAll ds) d.depth ≤ d.depth := Nat.min_le_right _ _
        omega) ⟨.bl _, H, I, rfl, ?_⟩
      rw [show (ds.any fun z => PyData.eqv z d) = (false != ds.any fun z => PyData.eqv z d) by simp]
      exact q _ H Z (.same zh zl (.bl _))
    · cases er
  · cases er
theorem o_notin (hu : X.A.units + 65 < cLine) : OpR X (compareOp .NotIn) (rOp2 X.K (inD true)) := fun pins s σ H x y v u Q I rx ry ⟨Z, d, e, r, zh, zl, hx, hy, er, q⟩ => by
  unfold inD at er
  split at er
  · rename_i ds
    split at er
    · rename_i hs
      obtain ⟨h1, h2⟩ := Bool.and_eq_true_iff.mp hs
      cases er
      refine op_notInD hu pins s σ H x y v u Q I rx ry ⟨d, ds, hx.dp zh (shaped_nodict h1), hy.dp zh (shaped_nodict h2), h1, h2, ?_⟩
      rw [show (!ds.any fun z => PyData.eqv z d) = (true != ds.any fun z => PyData.eqv z d) by simp]
      exact q _ H Z (.same zh zl (.bl _))
    · cases er
  · rename_i ds
    split at er
    · rename_i hs
      obtain ⟨h1, h2⟩ := Bool.and_eq_true_iff.mp hs
      cases er
      obtain ⟨as, r1⟩ := Dp.reads I d x v (hx.dp zh (shaped_nodict h1)) rx
      obtain ⟨bs, r2⟩ := Dp.reads I _ y u (hy.dp zh (shaped_nodict h2)) ry
      refine SeqAt.notIn_tuple_reads r2 r1 (SeqAt.canLay_of_shaped h2) (SeqAt.canLay_of_shaped h1) (by
        have := SeqAt.depth_of_shaped h1
        have h3 : min (PyData.depthAll ds) d.depth ≤ d.depth := Nat.min_le_right _ _
        omega) ⟨.bl _, H, I, rfl, ?_⟩
      rw [show (!ds.any fun z => PyData.eqv z d) = (true != ds.any fun z => PyData.eqv z d) by simp]
      exact q _ H Z (.same zh zl (.bl _))
    · cases er
  · cases er
theorem Sh.tupDp {K : PySem.W.Frag} {H Z : Hp} {v : V} {ds : List PyData} (h : Sh K H Z v (.tuple ds)) : Dp K Z v (.tuple ds) := by
  rcases h with h | ⟨a, rfl, h⟩
  · exact h
  · cases h
/-- list + list -/
theorem cat_lists {pins : List (Addr × Obj)} {s : Shared} {σ : St} {H : Hp} {a b : Addr} {xs ys : List V} {v u : Value} {Q : VK} (I : Inv X pins σ H s) (rx : RelV (.ref a) v) (ry : RelV (.ref b) u) (ha : SqL X.K H a xs) (hb : SqL X.K H b ys) (hz : xs.length + ys.length ≤ sizeLine)
    (q : ∀ p, H p = none → Q (.ref p) (upd H p (.lst (xs ++ ys)))) : wpAny (model X.prog X.w) X.A (binaryOp .Add v u) (EP X pins σ Q) X.xe s := by
  cases rx
  cases ry
  obtain ⟨its, r, pl, _⟩ := I.list ha
  obtain ⟨its2, r2, pl2, _⟩ := I.list hb
  obtain ⟨⟨cls, dd, data, sl⟩, ho, hc, n, hd⟩ := pl.isList
  obtain ⟨⟨cls2, dd2, data2, sl2⟩, ho2, hc2, n2, hd2⟩ := pl2.isList
  simp only at hc hd hc2 hd2
  subst hc hd hc2 hd2
  have e : its.toArray ++ its2.toArray = (its ++ its2).toArray := by simp
  refine concat_meets ⟨_, ho, rfl⟩ ⟨_, ho2, rfl⟩ noFill_list_add seq_list_add PySem.F.slot_list_add PySem.F.entry_list_add (PySem.F.args_list_add_2 _ _) (list_addW a b its.toArray its2.toArray n n2 dd dd2 sl sl2 (by simpa [← r.length, ← r2.length] using hz)) ⟨ho, ho2, ?_⟩
  rw [e]
  refine ⟨.ref s.heap.objs.size, _, I.laid (t' := s.toks) (o := .lst (xs ++ ys)) (fun b ob q => Heap.get?_push_of_some _ q) (Nat.le_refl _) ?_, rfl, q _ (I.hok.fresh (Nat.le_refl _))⟩
  exact ⟨by rw [List.length_append]; exact hz, _, 0, r.append r2, Heap.get?_push_size _ rfl⟩
/-- tuple + tuple, both not empty -/
theorem cat_tups {pins : List (Addr × Obj)} {s : Shared} {σ : St} {H : Hp} {a b : Addr} {xs ys : List V} {v u : Value} {Q : VK} (I : Inv X pins σ H s) (rx : RelV (.ref a) v) (ry : RelV (.ref b) u) (ha : SqT X.K H a xs) (hb : SqT X.K H b ys) (hz : xs.length + ys.length ≤ sizeLine)
    (q0 : xs = [] → Q (.ref b) H) (q1 : xs ≠ [] → ys = [] → Q (.ref a) H) (q2 : ∀ p o, H p = none → o.dict = none → Q (.ref p) (upd H p (.frz o (.tup (xs ++ ys))))) : wpAny (model X.prog X.w) X.A (binaryOp .Add v u) (EP X pins σ Q) X.xe s := by
  by_cases hx : xs = []
  · subst hx
    cases rx
    cases ry
    obtain ⟨its, r1, p1, _⟩ := I.tuple ha
    obtain ⟨its2, r2, p2, _⟩ := I.tuple hb
    cases r1
    exact cat_tup0 p1 p2 ⟨.ref b, H, I, rfl, q0 rfl⟩
  · cases rx
    cases ry
    obtain ⟨its, r1, p1, _⟩ := I.tuple ha
    obtain ⟨its2, r2, p2, _⟩ := I.tuple hb
    refine HT.cat_tup p1 p2 (fun z => hx (r1.nil_iff.mp z)) (fun z => ⟨.ref a, H, I, rfl, q1 hx (r2.nil_iff.mp z)⟩) (fun z => ?_) (by rw [← r1.length, ← r2.length]; exact hz)
    refine ⟨.ref s.heap.objs.size, _, I.laid (t' := s.toks) (o := .frz { cls := .type "tuple", data := .seq (its ++ its2).toArray } (.tup (xs ++ ys))) (fun b ob q => Heap.get?_push_of_some _ q) (Nat.le_refl _) ?_, rfl, q2 _ _ (I.hok.fresh (Nat.le_refl _)) rfl⟩
    exact tupF_ok (by rw [List.length_append]; exact hz) (r1.append r2) (Heap.get?_push_size _ rfl)
/-- tuple(x) -/
theorem call_tuple_ofF : CallR X (.type "tuple") (fun xs H Q => ∃ p ys, xs = [.ref p] ∧ ((SqL X.K H p ys ∧ ∀ l o, H l = none → o.dict = none → Q (.ref l) (upd H l (.frz o (.tup ys)))) ∨ (SqT X.K H p ys ∧ Q (.ref p) H))) := by
  intro pins s σ H xs us Q I r h
  obtain ⟨p, ys, rfl, h⟩ := h
  obtain ⟨u, rfl, rx⟩ := vals1 r
  cases rx
  rcases h with ⟨hq, q⟩ | ⟨hq, q⟩
  · obtain ⟨its, r', pl, hz⟩ := I.list hq
    have hlen := r'.length
    refine call_tuple_list pl.isList (fun h' kp => ?_) (by simp only [List.size_toArray] <;> omega)
    have I1 : Inv X pins σ H { s with heap := h' } := I.kept (t' := s.toks) kp
    have I2 : Inv X pins σ (upd H h'.objs.size (.frz { cls := .type "tuple", data := .seq its.toArray } (.tup ys))) { s with heap := h'.push { cls := .type "tuple", data := .seq its.toArray } } :=
      I1.laid (t' := s.toks) (fun b o e => Heap.get?_push_of_some _ e) (Nat.le_refl _) (tupF_ok hz r' (Heap.get?_push_size _ rfl))
    exact ⟨.ref h'.objs.size, _, I2, rfl, q _ _ (I1.hok.fresh (Nat.le_refl _)) rfl⟩
  · obtain ⟨its, r', pl, hz⟩ := I.tuple hq
    exact call_tuple_same pl ⟨.ref p, H, I, rfl, q⟩
theorem o_add : OpR X (binaryOp .Add) (rOp2 X.K addD) := fun pins s σ H x y v u Q I rx ry ⟨Z, d, e, r, zh, zl, hx, hy, er, q⟩ => by
  unfold addD at er
  split at er
  · cases er
    exact op_add pins s σ H x y v u Q I rx ry ⟨_, _, hx.int, hy.int, q _ H Z (.same zh zl (.int _))⟩
  · split at er
    · rename_i hl
      cases er
      exact op_add_str pins s σ H x y v u Q I rx ry ⟨_, _, hx.str, hy.str, hl, q _ H Z (.same zh zl (.str _))⟩
    · cases er
  · rename_i xs ys
    split at er
    · rename_i hl
      cases er
      obtain ⟨a, us, ea, ha, hda⟩ := hx.list zh
      obtain ⟨b, ws, eb, hb, hdb⟩ := hy.list zh
      subst ea
      subst eb
      have hz : us.length + ws.length ≤ sizeLine := by rw [hda.length, hdb.length]; exact hl
      exact cat_lists I rx ry ha hb hz fun p hp => q _ _ _ (Alc.newLst zh zl hp (by rw [List.length_append]; exact hz) (hda.append hdb))
    · cases er
  · rename_i xs ys
    split at er
    · rename_i hl
      cases er
      obtain ⟨a, us, ea, ha, hda⟩ := hx.tuple zh
      obtain ⟨b, ws, eb, hb, hdb⟩ := hy.tuple zh
      have hz : us.length + ws.length ≤ sizeLine := by rw [hda.length, hdb.length]; exact hl
      subst ea
      subst eb
      refine cat_tups I rx ry ha hb hz (fun e => ?_) (fun e1 e2 => ?_) (fun p o hp ho => q _ _ _ (Alc.newTup zh zl hp ho (by rw [List.length_append]; exact hz) (hda.append hdb)))
      · subst e
        cases hda
        rw [List.nil_append] at q
        exact q _ H Z (.same zh zl hy.tupDp)
      · subst e2
        cases hdb
        rw [List.append_nil] at q
        exact q _ H Z (.same zh zl hx.tupDp)
    · cases er
  · cases er
theorem x_ix : IxR X (rOp2 X.K ixD) := ixImp (ix_seq (X := X)) fun x y H Q ⟨Z, d, e, r, zh, zl, hx, hy, er, q⟩ => by
  unfold ixD at er
  split at er
  · rename_i ds i
    obtain ⟨d', e1, er⟩ := bs er
    cases er
    obtain ⟨a, us, rfl, ha, hda⟩ := hx.list zh
    obtain ⟨j, e2, e3⟩ := bs e1
    obtain ⟨w, e4, hw⟩ := hda.get e3
    refine .inl ⟨a, us, i, w, rfl, hy.int, ha, ?_, q _ H Z (.same zh zl hw)⟩
    unfold atI
    rw [hda.length, e2]
    exact e4
  · rename_i ds i
    obtain ⟨d', e1, er⟩ := bs er
    cases er
    obtain ⟨a, us, rfl, ha, hda⟩ := hx.tuple zh
    obtain ⟨j, e2, e3⟩ := bs e1
    obtain ⟨w, e4, hw⟩ := hda.get e3
    refine .inr (.inl ⟨a, us, i, w, rfl, hy.int, ha, ?_, q _ H Z (.same zh zl hw)⟩)
    unfold atI
    rw [hda.length, e2]
    exact e4
  · rename_i z i
    split at er
    · rename_i hz
      obtain ⟨c, e1, er⟩ := bs er
      cases er
      exact .inr (.inr ⟨z, i, c, hx.str, hy.int, hz, e1, q _ H Z (.same zh zl (.str _))⟩)
    · cases er
  · cases er
/-! ### built-ins -/
theorem sh1 {K : PySem.W.Frag} {H Z : Hp} {xs : List V} {d : D} (h : ShAll K H Z xs [d]) : ∃ x, xs = [x] ∧ Sh K H Z x d := by
  cases h with
  | cons h1 h2 => cases h2; exact ⟨_, rfl, h1⟩
theorem sh2 {K : PySem.W.Frag} {H Z : Hp} {xs : List V} {d e : D} (h : ShAll K H Z xs [d, e]) : ∃ x y, xs = [x, y] ∧ Sh K H Z x d ∧ Sh K H Z y e := by
  cases h with
  | cons h1 h2 =>
    obtain ⟨y, rfl, h3⟩ := sh1 h2
    exact ⟨_, _, rfl, h1, h3⟩
theorem c_len : CallR X (.builtin "len") (rOpN X.K lenD) := callImp (call_len_seq.or call_len_str) fun xs H Q ⟨Z, ds, r, zh, zl, hs, er, q⟩ => by
  unfold lenD at er
  split at er
  · obtain ⟨x, rfl, hx⟩ := sh1 hs
    cases er
    obtain ⟨a, us, rfl, ha, hda⟩ := hx.list zh
    exact .inl ⟨a, us, rfl, .inl ha, by rw [hda.length]; exact q _ H Z (.same zh zl (.int _))⟩
  · obtain ⟨x, rfl, hx⟩ := sh1 hs
    cases er
    obtain ⟨a, us, rfl, ha, hda⟩ := hx.tuple zh
    exact .inl ⟨a, us, rfl, .inr ha, by rw [hda.length]; exact q _ H Z (.same zh zl (.int _))⟩
  · obtain ⟨x, rfl, hx⟩ := sh1 hs
    split at er
    · rename_i hz
      cases er
      exact .inr ⟨_, by rw [hx.str], hz, q _ H Z (.same zh zl (.int _))⟩
    · cases er
  · cases er
theorem c_abs : CallR X (.builtin "abs") (rOpN X.K absD) := callImp call_abs fun xs H Q ⟨Z, ds, r, zh, zl, hs, er, q⟩ => by
  unfold absD at er
  split at er
  · obtain ⟨x, rfl, hx⟩ := sh1 hs
    cases er
    exact ⟨_, by rw [hx.int], q _ H Z (.same zh zl (.int _))⟩
  · cases er
theorem c_min2 (hc : X.calm = true) : CallR X (.builtin "min") (rOpN X.K min2D) := callImp (call_min2 hc) fun xs H Q ⟨Z, ds, r, zh, zl, hs, er, q⟩ => by
  unfold min2D at er
  split at er
  · obtain ⟨x, y, rfl, hx, hy⟩ := sh2 hs
    cases er
    exact ⟨_, _, by rw [hx.int, hy.int], q _ H Z (.same zh zl (.int _))⟩
  · cases er
theorem c_max2 (hc : X.calm = true) : CallR X (.builtin "max") (rOpN X.K max2D) := callImp (call_max2 hc) fun xs H Q ⟨Z, ds, r, zh, zl, hs, er, q⟩ => by
  unfold max2D at er
  split at er
  · obtain ⟨x, y, rfl, hx, hy⟩ := sh2 hs
    cases er
    exact ⟨_, _, by rw [hx.int, hy.int], q _ H Z (.same zh zl (.int _))⟩
  · cases er
theorem c_int : CallR X (.type "int") (rOpN X.K intD) := callImp call_int1 fun xs H Q ⟨Z, ds, r, zh, zl, hs, er, q⟩ => by
  unfold intD at er
  split at er
  · obtain ⟨x, rfl, hx⟩ := sh1 hs
    cases er
    exact .inl ⟨_, by rw [hx.int], q _ H Z (.same zh zl (.int _))⟩
  · obtain ⟨x, rfl, hx⟩ := sh1 hs
    cases er
    exact .inr ⟨_, by rw [hx.bool], q _ H Z (.same zh zl (.int _))⟩
  · cases er
theorem c_list : CallR X (.type "list") (rOpN X.K listD) := callImp call_list_of fun xs H Q ⟨Z, ds, r, zh, zl, hs, er, q⟩ => by
  unfold listD at er
  split at er
  · obtain ⟨x, rfl, hx⟩ := sh1 hs
    split at er
    · rename_i hz
      cases er
      obtain ⟨a, us, rfl, ha, hda⟩ := hx.list zh
      exact ⟨a, us, rfl, .inl ha, fun l hl => q _ _ _ (.newLst zh zl hl (by rw [hda.length]; exact hz) hda)⟩
    · cases er
  · obtain ⟨x, rfl, hx⟩ := sh1 hs
    split at er
    · rename_i hz
      cases er
      obtain ⟨a, us, rfl, ha, hda⟩ := hx.tuple zh
      exact ⟨a, us, rfl, .inr ha, fun l hl => q _ _ _ (.newLst zh zl hl (by rw [hda.length]; exact hz) hda)⟩
    · cases er
  · cases er
theorem c_tuple : CallR X (.type "tuple") (rOpN X.K tupleD) := callImp call_tuple_ofF fun xs H Q ⟨Z, ds, r, zh, zl, hs, er, q⟩ => by
  unfold tupleD at er
  split at er
  · obtain ⟨x, rfl, hx⟩ := sh1 hs
    split at er
    · rename_i hz
      cases er
      obtain ⟨a, us, rfl, ha, hda⟩ := hx.list zh
      exact ⟨a, us, rfl, .inl ⟨ha, fun l o hl ho => q _ _ _ (.newTup zh zl hl ho (by rw [hda.length]; exact hz) hda)⟩⟩
    · cases er
  · obtain ⟨x, rfl, hx⟩ := sh1 hs
    cases er
    have h1 := hx.tupDp
    obtain ⟨a, us, rfl, ha, hda⟩ := hx.tuple zh
    exact ⟨a, us, rfl, .inr ⟨ha, q _ _ _ (.same zh zl h1)⟩⟩
  · cases er
theorem ints_dp {K : PySem.W.Frag} {Z : Hp} : ∀ {ds : List D} {us : List V} {is : List Int}, DpAll K Z us ds → intsOf ds = some is → us = is.map V.int
  | [], _, _, h, e => by cases h; cases e; rfl
  | d :: ds, _, is, h, e => by
    cases h with
    | cons h1 h2 =>
      cases h1 with
      | int i =>
        obtain ⟨is', e1, e⟩ := bs (show (intsOf ds).bind _ = some is from e)
        cases e
        rw [ints_dp h2 e1]; rfl
      | _ => cases e
theorem c_sum (hc : X.calm = true) : CallR X (.builtin "sum") (rOpN X.K sumD) := callImp (cr_sum hc) fun xs H Q ⟨Z, ds, r, zh, zl, hs, er, q⟩ => by
  unfold sumD at er
  split at er
  · obtain ⟨x, rfl, hx⟩ := sh1 hs
    obtain ⟨is, e1, er⟩ := bs er
    cases er
    obtain ⟨a, us, rfl, ha, hda⟩ := hx.list zh
    rw [ints_dp hda e1] at ha
    exact ⟨a, is, rfl, ha, q _ H Z (.same zh zl (.int _))⟩
  · cases er
end
end Ev


set_option Elab.async false
set_option linter.all false
set_option maxRecDepth 100000
set_option maxHeartbeats 4000000
/-! Ev7: isinstance, methods, tuple * int, slices. -/
namespace Ev
open PySem PySem.Spec L2
open PyProof.Rows hiding St

/-! ### isinstance(e, T) -/
def isiD (T : String) : D → Option RV := fun d => match d with
  | .dict _ => none
  | d => (kitB (tyOf d) T).bind fun b => rB b
section
variable {X : Cx}
theorem ev_isi {e : Expr} {f : EF} {T : String} {x y : Str} {p p2 pos : Pos} (hg : Gl X x) (hm : X.mg x = none) (hv : bootBuiltins x = some (.builtin "isinstance")) (hg2 : Gl X y) (hm2 : X.mg y = none) (hv2 : bootBuiltins y = some (.type T)) (he : EvE X e f)
    (hn : x ≠ "__name__" := by decide) (hdb : (x == ("__debug__" : Str)) = false := by decide) (hn2 : y ≠ "__name__" := by decide) (hdb2 : (y == ("__debug__" : Str)) = false := by decide)
    (hs : starEach [e, .Name y p2] X.env = (false, eval e X.env) :: starEach [.Name y p2] X.env := by rfl) (hs2 : starEach [.Name y p2] X.env = [(false, eval (.Name y p2) X.env)] := by rfl) (hpl : (backTo pos (starEach [.Name y p2] X.env)).any (·.1) = false := by rfl) :
    EvE X (.Call (.Name x p) [e, .Name y p2] [] pos) (fUn (isiD T) f) :=
  ⟨peImp (pe_callB call_isi hg hm hv (pa_cons he.pe (pa_cons (pe_bltn (v := .ty T) (u := .type T) hg2 hm2 hv2 rfl hn2 hdb2) pa_nil (hs2.trans rfl)) hs) hn hdb hs hpl) fun σ H Q h => by
    have h := tE_un h
    obtain ⟨Z, ρ, r, ρ', E, e, q⟩ := h
    refine ⟨Z, ρ, r, ρ', E, e, fun v H1 Z1 P => ?_⟩
    obtain ⟨Z2, d, r2, zh, zl, hx, er, q⟩ := q v H1 Z1 P
    show rIsi X.K [v, .ty T] H1 Q
    have ty : TyX X.K H1 v (.type (tyOf d)) ∧ ∃ b, kitB (tyOf d) T = some b ∧ r2 = .fz (.bool b) := by
      have fin : ∀ {d : D}, (∀ kvs, d ≠ .dict kvs) → isiD T d = some r2 → ∃ b, kitB (tyOf d) T = some b ∧ r2 = .fz (.bool b) := fun {d} nd er => by
        have er : (kitB (tyOf d) T).bind (fun b => rB b) = some r2 := by
          cases d <;> first | exact er | exact absurd rfl (nd _)
        obtain ⟨b, e1, er⟩ := bs er
        cases er
        exact ⟨b, e1, rfl⟩
      rcases hx with hx | ⟨a, rfl, hx⟩
      · cases hx with
        | non => exact ⟨.base .non, fin (fun _ z => nomatch z) er⟩
        | bl b => exact ⟨.base (.bl b), fin (fun _ z => nomatch z) er⟩
        | int i => exact ⟨.base (.int i), fin (fun _ z => nomatch z) er⟩
        | str z => exact ⟨.base (.str z), fin (fun _ z => nomatch z) er⟩
        | lst h1 h2 =>
          refine ⟨?_, fin (fun _ z => nomatch z) er⟩
          rcases zh.sql h1 with (h | ⟨o, h⟩) | ⟨o, its, n, hk, hc, _⟩
          · exact .base (.lst h)
          · exact .base (.frz h)
          · exact .kList hk hc
        | tup h1 h2 =>
          obtain ⟨o, h1⟩ := h1
          exact ⟨.fTuple (zh _ _ h1), fin (fun _ z => nomatch z) er⟩
      · cases hx with
        | lst h1 h2 h3 => exact ⟨.base (.lst h1), fin (fun _ z => nomatch z) er⟩
        | dic h1 h2 h3 => cases er
    obtain ⟨t1, b, t2, rfl⟩ := ty
    exact ⟨v, .ty T, _, _, b, rfl, .ty T, t1, kit_ty t2, q _ H1 Z2 (.same zh zl (.bl _))⟩⟩
end

/-! ### methods that change nothing -/
def tyX (K : PySem.W.Frag) (T : String) (x : V) (H : Hp) : Prop := tyV K T x H ∨ (T = "tuple" ∧ ∃ p o xs, x = .ref p ∧ H p = some (.frz o (.tup xs)) ∧ o.dict = none)
structure MtF (X : Cx) (name : Str) (T id : String) (r : V → List V → Hp → VK → Prop) : Prop where
  pa : PlainAttrs T
  slot : PySem.Slot T name id
  hty : typeOf (.builtin id) = pure (.type "method_descriptor")
  hm : MtR X id r
def rOpM (K : PySem.W.Frag) (T : String) (g : D → List D → Option RV) : V → List V → Hp → VK → Prop := fun x xs H Q => ∃ Z d ds r, Hsub Z H ∧ ZL Z ∧ Sh K H Z x d ∧ ShAll K H Z xs ds ∧ tyOf d = T ∧ g d ds = some r ∧ ∀ v H' Z', Alc K H Z H' Z' v r → Q v H'
def fMeth (g : D → List D → Option RV) (fo : EF) (fs : AF) : EF := fun ρ => (fFz fo ρ).bind fun p => (rs p.2 p.1).bind fun d0 => (fs p.2).bind fun q => (rs q.2 p.1).bind fun d => (rsAll q.2 q.1).bind fun ds => if tyOf d0 = tyOf d then (g d ds).bind fun r => some (r, q.2) else none
section
variable {X : Cx} {o e : Expr} {es : List Expr} {fo : EF} {fs : AF} {name : Str} {apos cpos : Pos}
theorem tyX_is {pins : List (Addr × Obj)} {σ : St} {H : Hp} {s : Shared} {T : String} {x : V} {v : Value} (I : Inv X pins σ H s) (r : RelV x v) (ty : tyX X.K T x H) :
    s.TypeIs v T ∧ ∀ a, v = .ref a → ∃ ob, s.heap.get? a = some ob ∧ ob.dict = none := by
  rcases ty with ty | ⟨rfl, p, o, xs, rfl, h, hd⟩
  · exact tyV_is I r ty
  · cases r
    obtain ⟨e, _, _, _, o', e', hc, _⟩ := I.hok p _ h
    refine ⟨⟨o', e', hc⟩, fun a e2 => ?_⟩
    cases e2
    exact ⟨o, e, hd⟩
theorem sh_ty {H Z : Hp} {v : V} {d : D} (zh : Hsub Z H) (zl : ZL Z) (h : Sh X.K H Z v d) (hn : tyOf d ∈ ["str", "int", "list", "tuple", "dict"]) : tyX X.K (tyOf d) v H := by
  rcases h with h | ⟨a, rfl, h⟩
  · cases h with
    | non => simp [tyOf] at hn
    | bl b => simp [tyOf] at hn
    | int i => exact .inl rfl
    | str z => exact .inl rfl
    | lst h1 h2 => exact .inl (.inl ⟨rfl, _, zh.sql h1⟩)
    | tup h1 h2 =>
      obtain ⟨o, h1⟩ := h1
      exact .inr ⟨rfl, _, o, _, rfl, zh _ _ h1, (zl _ _ h1).1⟩
  · cases h with
    | lst h1 h2 h3 => exact .inl (.inl ⟨rfl, _, .of h1⟩)
    | dic h1 h2 h3 => exact .inl (.inr (.inr (.inl ⟨rfl, .inl ⟨_, h1⟩⟩)))
theorem ev_meth {g : D → List D → Option RV} (Ts : List String) (hT : ∀ d as r, g d as = some r → tyOf d ∈ Ts) (hTs : ∀ T ∈ Ts, T ∈ ["str", "int", "list", "tuple", "dict"]) (hm : ∀ T ∈ Ts, ∃ id, MtF X name T id (rOpM X.K T g)) (ho : EvE X o fo) (ha : EvA X (e :: es) fs)
    (hbase : attributeBase o name X.env (eval o X.env) = eval o X.env := by rfl)
    (hfew : ((backTo cpos (starEach (e :: es) X.env)).all (fun x => !x.1) && (backToKw cpos (keywordEach [] X.env)).all (fun x => x.1.isSome)
      && decide ((e :: es).length + ([] : List Keyword).length + (if ([] : List Keyword).isEmpty then 0 else 1) < 30)) = true := by rfl)
    (hline : (apos.endLine == cpos.line) = true := by rfl) (hs : starEach (e :: es) X.env = (false, eval e X.env) :: starEach es X.env := by rfl) (hplain : (backTo cpos (starEach es X.env)).any (·.1) = false := by rfl) :
    EvE X (.Call (.Attribute o name apos) (e :: es) [] cpos) (fMeth g fo fs) := by
  refine ⟨⟨fun pins s σ H Q I ⟨Z, ρ, r, ρ', E, ef, q⟩ => ?_⟩⟩
  obtain ⟨⟨x, ρ1⟩, e1, ef⟩ := bs ef
  obtain ⟨d0, e2, ef⟩ := bs ef
  obtain ⟨⟨rs', ρ2⟩, e3, ef⟩ := bs ef
  obtain ⟨d, e4, ef⟩ := bs ef
  obtain ⟨ds, e5, ef⟩ := bs ef
  dsimp only at ef
  split at ef
  · rename_i hty
    obtain ⟨r', e6, ef⟩ := bs ef
    cases ef
    have hin := hT d ds _ e6
    obtain ⟨id, M⟩ := hm _ hin
    refine wpAny_Call_method_late hbase hfew hline rfl (thn (ho.pe.run pins s σ H (fun v H1 => ∃ Z1, Post X.K σ ρ ρ1 H Z H1 Z1 v x) I (tE_fz ⟨Z, ρ, x, ρ1, E, e1, fun v H1 Z1 P => ⟨Z1, P⟩⟩)) fun v s1 ⟨xv, H1, I1, r1, Z1, P1⟩ => ?_)
    have ra := P1.rv.toRa (rs_isArg e2)
    have sh0 := ra.sh P1.env e2
    have tx := sh_ty P1.env.zh P1.env.zl sh0 (by rw [hty]; exact hTs _ hin)
    rw [hty] at tx
    obtain ⟨h1, h2⟩ := tyX_is I1 r1 tx
    refine ⟨tyOf d, id, M.pa, M.slot, M.hty, h1, h2, ?_⟩
    have hA := ha.pa.run cpos pins s1 σ H1 (fun vs H2 => ∃ Z2, Stp (OwnA σ ρ1) H1 Z1 H2 Z2 ∧ EnvOk X.K H2 Z2 σ ρ' ∧ Ow σ ρ1 ρ' ∧ RasOk X.K Z2 σ vs rs') I1 ⟨Z1, ρ1, rs', ρ', P1.env, e3, fun vs H2 Z2 a b c d => ⟨Z2, a, b, c, d⟩⟩
    rw [hs] at hA ⊢
    refine Calls.callWith_builtin (by show (false || (backTo cpos (starEach es X.env)).any (·.1)) = false; rw [hplain] <;> rfl) (Calls.evalArgs_plain ?_)
    refine thn hA fun us s2 ⟨vs, H2, I2, r2, Z2, s12, E2, o2, ra2⟩ => ?_
    refine M.hm pins s2 σ H2 xv vs v us Q I2 r1 r2 ⟨Z2, d, ds, _, E2.zh, E2.zl, (ra.mono s12.zz).sh E2 e4, ra2.sh E2 e5, rfl, e6, fun w H3 Z3 A => q w H3 Z3 ?_⟩
    exact Post.trans (P1.stp.trans (fun b h => .inl (P1.ow.ow b h)) s12) (P1.ow.trans o2) (A.post E2)
  · cases ef
/-- no argument -/
def fMeth0 (g : D → Option RV) (fo : EF) : EF := fUn g fo
theorem ev_meth0 {g : D → Option RV} {T id : String} (hT : ∀ d r, g d = some r → tyOf d = T) (hTs : T ∈ ["str", "int", "list", "tuple", "dict"]) (M : MtF X name T id (fun x xs H Q => xs = [] ∧ rOp1 X.K g x H Q)) (ho : EvE X o fo)
    (hbase : attributeBase o name X.env (eval o X.env) = eval o X.env := by rfl) (hline : (apos.endLine == cpos.line) = true := by rfl) :
    EvE X (.Call (.Attribute o name apos) [] [] cpos) (fUn g fo) := by
  refine ⟨⟨fun pins s σ H Q I h => ?_⟩⟩
  have h := tE_un h
  refine wpAny_Call_method0_late hbase hline (thn (ho.pe.run pins s σ H _ I h) fun v s1 ⟨x, H1, I1, r1, q1⟩ => ?_)
  obtain ⟨Z, d, r, zh, zl, hx, er, q⟩ := q1
  have e := hT d r er
  have tx := sh_ty zh zl hx (by rw [e]; exact hTs)
  rw [e] at tx
  obtain ⟨h1, h2⟩ := tyX_is I1 r1 tx
  exact ⟨T, id, M.pa, M.slot, M.hty, h1, h2, Calls.callWith_builtin rfl (PySem.evalArgs_none (M.hm pins s1 σ H1 x [] v [] Q I1 r1 .nil ⟨rfl, Z, d, r, zh, zl, hx, er, q⟩))⟩

/-! count, index of lists and tuples -/
def countD : D → List D → Option RV
  | .list ds, [d] => if (SeqAt.shaped d && SeqAt.shaped (.list ds)) = true then rI (ds.countP fun z => PyData.eqv z d : Nat) else none
  | .tuple ds, [d] => if (SeqAt.shaped d && SeqAt.shaped (.tuple ds)) = true then rI (ds.countP fun z => PyData.eqv z d : Nat) else none
  | _, _ => none
def indexD : D → List D → Option RV
  | .list ds, [d] => if (SeqAt.shaped d && SeqAt.shaped (.list ds)) = true then (ds.findIdx? fun z => PyData.eqv z d).bind fun j => rI (j : Nat) else none
  | .tuple ds, [d] => if (SeqAt.shaped d && SeqAt.shaped (.tuple ds)) = true then (ds.findIdx? fun z => PyData.eqv z d).bind fun j => rI (j : Nat) else none
  | _, _ => none
section
variable {pins : List (Addr × Obj)} {σ : St} {H : Hp} {s : Shared}
/-- the items of a list as data -/
theorem items_at {A : Around} {its : List Value} {ds : List PyData} {as : List Addr} {d : PyData} {bs : List Addr} {u : Value} (rd : ReadsAll s.heap its ds as) (r1 : Reads s.heap u d bs) (hs : SeqAt.shaped d = true) (hl : PyData.canLayAll0 ds = true) (hu : A.units + 65 < cLine) :
    (∀ y, y ∈ its.toArray → SeqAt.EqAt A.in1 s y u (PyData.eqv (SeqAt.readOf s.heap y) d)) ∧ its.map (SeqAt.readOf s.heap) = ds := by
  refine ⟨SeqAt.items_eqAt (vs := its.toArray) (show ReadsAll s.heap its.toArray.toList ds as from rd) r1 hl (SeqAt.canLay_of_shaped hs) ?_, SeqAt.readsAll_map ds its as hl rd⟩
  have := SeqAt.depth_of_shaped hs
  have h3 : min (PyData.depthAll ds) d.depth ≤ d.depth := Nat.min_le_right _ _
  omega
theorem m_count (hu : X.A.units + 65 < cLine) : ∀ T ∈ ["list", "tuple"], ∃ id, MtF X "count" T id (rOpM X.K T countD) := by
  intro T hT
  rcases List.mem_cons.mp hT with rfl | hT
  · refine ⟨_, PySem.F.plainAttrs_list, PySem.F.slot_list_count, PySem.F.type_list_count, fun pins s σ H x xs v us Q I rx rxs ⟨Z, d, as, r, zh, zl, hx, hs, ht, er, q⟩ => ?_⟩
    unfold countD at er
    split at er
    · rename_i ds d
      split at er
      · rename_i hsh
        obtain ⟨h1, h2⟩ := Bool.and_eq_true_iff.mp hsh
        cases er
        obtain ⟨y, rfl, hy⟩ := sh1 hs
        obtain ⟨a, ws, rfl, ha, hda⟩ := hx.list zh
        cases rx
        obtain ⟨u, rfl, ru⟩ := rxs.one
        obtain ⟨bs, r1⟩ := L2.Dp.reads I d y u (hy.dp zh (shaped_nodict h1)) ru
        obtain ⟨its, rv, ⟨⟨cls, dd, data, sl⟩, n, ho, hc, hdn, hdt⟩, hlen⟩ := I.list ha
        simp only at hc hdt
        subst hc hdt
        obtain ⟨as, h4⟩ := L2.Dp.readsAll I ds ws its (DpAll.mono zh hda).l2 rv
        obtain ⟨k1, k2⟩ := items_at h4 r1 h1 (SeqAt.canLay_of_shaped h2) hu
        refine call_meets PySem.F.slot_list_count ⟨_, ho, rfl⟩ PySem.F.entry_list_count (PySem.F.args_list_count_2 _ _) (SeqAt.list_countAt a its.toArray n dd sl u (fun u => PyData.eqv (SeqAt.readOf s.heap u) d)) ⟨ho, k1, ?_⟩
        have ec : its.toArray.toList.countP (fun u => PyData.eqv (SeqAt.readOf s.heap u) d) = ds.countP fun z => PyData.eqv z d := by
          rw [← k2, List.countP_map]; rfl
        refine ⟨.int _, H, I.tok _, ⟨s.toks, ?_⟩, q _ H Z (.same zh zl (.int _))⟩
        rw [ec]
      · cases er
    · exact absurd (show "tuple" = "list" from ht) (by decide)
    · cases er
  · have hT : T = "tuple" := by simpa using hT
    subst hT
    refine ⟨_, PySem.F.plainAttrs_tuple, PySem.F.slot_tuple_count, PySem.F.type_tuple_count, fun pins s σ H x xs v us Q I rx rxs ⟨Z, d, as, r, zh, zl, hx, hs, ht, er, q⟩ => ?_⟩
    unfold countD at er
    split at er
    · exact absurd (show "list" = "tuple" from ht) (by decide)
    · rename_i ds d
      split at er
      · rename_i hsh
        obtain ⟨h1, h2⟩ := Bool.and_eq_true_iff.mp hsh
        cases er
        obtain ⟨y, rfl, hy⟩ := sh1 hs
        obtain ⟨a, ws, rfl, ha, hda⟩ := hx.tuple zh
        cases rx
        obtain ⟨u, rfl, ru⟩ := rxs.one
        obtain ⟨bs, r1⟩ := L2.Dp.reads I d y u (hy.dp zh (shaped_nodict h1)) ru
        obtain ⟨its, rv, ⟨⟨cls, dd, data, sl⟩, ho, hc, n, hdt⟩, hlen⟩ := I.tuple ha
        simp only at hc hdt
        subst hc hdt
        obtain ⟨as, h4⟩ := L2.Dp.readsAll I ds ws its (DpAll.mono zh hda).l2 rv
        obtain ⟨k1, k2⟩ := items_at h4 r1 h1 (SeqAt.canLay_of_shaped h2) hu
        refine call_meets PySem.F.slot_tuple_count ⟨_, ho, rfl⟩ PySem.F.entry_tuple_count (PySem.F.args_tuple_count_2 _ _) (SeqAt.tuple_countAt a its.toArray n dd sl u (fun u => PyData.eqv (SeqAt.readOf s.heap u) d)) ⟨ho, k1, ?_⟩
        have ec : its.toArray.toList.countP (fun u => PyData.eqv (SeqAt.readOf s.heap u) d) = ds.countP fun z => PyData.eqv z d := by
          rw [← k2, List.countP_map]; rfl
        refine ⟨.int _, H, I.tok _, ⟨s.toks, ?_⟩, q _ H Z (.same zh zl (.int _))⟩
        rw [ec]
      · cases er
    · cases er
theorem m_index (hu : X.A.units + 65 < cLine) : ∀ T ∈ ["list", "tuple"], ∃ id, MtF X "index" T id (rOpM X.K T indexD) := by
  intro T hT
  rcases List.mem_cons.mp hT with rfl | hT
  · refine ⟨_, PySem.F.plainAttrs_list, PySem.F.slot_list_index, PySem.F.type_list_index, fun pins s σ H x xs v us Q I rx rxs ⟨Z, d, as, r, zh, zl, hx, hs, ht, er, q⟩ => ?_⟩
    unfold indexD at er
    split at er
    · rename_i ds d
      split at er
      · rename_i hsh
        obtain ⟨h1, h2⟩ := Bool.and_eq_true_iff.mp hsh
        obtain ⟨j, ej, er⟩ := bs er
        cases er
        obtain ⟨y, rfl, hy⟩ := sh1 hs
        obtain ⟨a, ws, rfl, ha, hda⟩ := hx.list zh
        cases rx
        obtain ⟨u, rfl, ru⟩ := rxs.one
        obtain ⟨bs, r1⟩ := L2.Dp.reads I d y u (hy.dp zh (shaped_nodict h1)) ru
        obtain ⟨its, rv, ⟨⟨cls, dd, data, sl⟩, n, ho, hc, hdn, hdt⟩, hlen⟩ := I.list ha
        simp only at hc hdt
        subst hc hdt
        obtain ⟨as, h4⟩ := L2.Dp.readsAll I ds ws its (DpAll.mono zh hda).l2 rv
        obtain ⟨k1, k2⟩ := items_at h4 r1 h1 (SeqAt.canLay_of_shaped h2) hu
        rw [← k2, List.findIdx?_map] at ej
        obtain ⟨hj, hit, hno⟩ := List.findIdx?_eq_some_iff_getElem.mp ej
        have hsl := sizeLine_eq
        have hvl := rv.length
        refine call_meets PySem.F.slot_list_index ⟨_, ho, rfl⟩ PySem.F.entry_list_index (PySem.F.args_list_index_2 _ _)
          (SeqAt.list_indexAt a its.toArray n dd sl u (fun u => PyData.eqv (SeqAt.readOf s.heap u) d) j (by simpa using hj) (by omega) (by simpa using hit) (fun m hm hmj => by simpa using hno m hmj)) ⟨ho, k1, ?_⟩
        exact ⟨.int (j : Nat), H, I.tok _, ⟨_, rfl⟩, q _ H Z (.same zh zl (.int _))⟩
      · cases er
    · exact absurd (show "tuple" = "list" from ht) (by decide)
    · cases er
  · have hT : T = "tuple" := by simpa using hT
    subst hT
    refine ⟨_, PySem.F.plainAttrs_tuple, PySem.F.slot_tuple_index, PySem.F.type_tuple_index, fun pins s σ H x xs v us Q I rx rxs ⟨Z, d, as, r, zh, zl, hx, hs, ht, er, q⟩ => ?_⟩
    unfold indexD at er
    split at er
    · exact absurd (show "list" = "tuple" from ht) (by decide)
    · rename_i ds d
      split at er
      · rename_i hsh
        obtain ⟨h1, h2⟩ := Bool.and_eq_true_iff.mp hsh
        obtain ⟨j, ej, er⟩ := bs er
        cases er
        obtain ⟨y, rfl, hy⟩ := sh1 hs
        obtain ⟨a, ws, rfl, ha, hda⟩ := hx.tuple zh
        cases rx
        obtain ⟨u, rfl, ru⟩ := rxs.one
        obtain ⟨bs, r1⟩ := L2.Dp.reads I d y u (hy.dp zh (shaped_nodict h1)) ru
        obtain ⟨its, rv, ⟨⟨cls, dd, data, sl⟩, ho, hc, n, hdt⟩, hlen⟩ := I.tuple ha
        simp only at hc hdt
        subst hc hdt
        obtain ⟨as, h4⟩ := L2.Dp.readsAll I ds ws its (DpAll.mono zh hda).l2 rv
        obtain ⟨k1, k2⟩ := items_at h4 r1 h1 (SeqAt.canLay_of_shaped h2) hu
        rw [← k2, List.findIdx?_map] at ej
        obtain ⟨hj, hit, hno⟩ := List.findIdx?_eq_some_iff_getElem.mp ej
        refine call_meets PySem.F.slot_tuple_index ⟨_, ho, rfl⟩ PySem.F.entry_tuple_index (PySem.F.args_tuple_index_2 _ _)
          (SeqAt.tuple_index2_found a its.toArray n dd sl u (fun j => PyData.eqv (SeqAt.readOf s.heap (its.getD j .none)) d) j (by simpa using hj) (Nat.zero_le _) (by simpa using hj) ?_ (fun m hm _ hmj => ?_)) ⟨ho, fun m hm => ?_, ?_⟩
        · rw [List.getD_eq_getElem?_getD, List.getElem?_eq_getElem hj]; exact hit
        · have hm' : m < its.length := by simpa using hm
          have := hno m hmj
          rw [List.getD_eq_getElem?_getD, List.getElem?_eq_getElem hm']
          simpa using this
        · have hm' : m < its.length := by simpa using hm
          have := k1 its.toArray[m] (by simp)
          rw [List.getD_eq_getElem?_getD, List.getElem?_eq_getElem hm']
          simpa using this
        · exact ⟨.int (j : Nat), H, I.tok _, ⟨_, rfl⟩, q _ H Z (.same zh zl (.int _))⟩
      · cases er
    · cases er
end
end
end Ev


set_option Elab.async false
set_option linter.all false
set_option maxRecDepth 100000
set_option maxHeartbeats 4000000
/-! Ev8: tuple * int, slices. -/
namespace L2
open PySem PySem.Spec PyProof.Rows
theorem tuple_mulSame (l : Addr) (items : Array Value) (n : Nat) (dd : Option Addr) (sl : Array (Option Value)) (x : Int) (u : Tok) (c0 : (decide (x < -(2 ^ 63)) || decide (x ≥ 2 ^ 63)) = false) (c1 : (items.isEmpty || x == 1) = true) :
    Meets (Builtin.«tuple.__mul__» ⟨[.ref l, .int x u], []⟩) (fun _ R s => s.heap.get? l = some { cls := .type "tuple", dict := dd, data := .seq items n, slots := sl } ∧
      R (.ok (.ret (Value.ref l))) s) :=
  .of_wp fun prog w A R s h => by
    obtain ⟨hp, g, d, tk, os⟩ := s
    obtain ⟨hl, h⟩ := h
    have f1 := AutoSeq1.idx_int
    wp_walk using wpAny_loadPart' hl
    repeat (first
      | (refine wpAny_ite_false (decide_eq_false (by rw [c0]; exact Bool.false_ne_true)) ?_; wp_walk using wpAny_loadPart' hl)
      | (refine wpAny_ite_true (decide_eq_true c1) ?_; wp_walk using wpAny_loadPart' hl))
    exact ⟨_, rfl, h⟩
theorem tuple_mulNone (l : Addr) (items : Array Value) (n : Nat) (dd : Option Addr) (sl : Array (Option Value)) (x : Int) (u : Tok) (c0 : (decide (x < -(2 ^ 63)) || decide (x ≥ 2 ^ 63)) = false) (c1 : (items.isEmpty || x == 1) = false) (c2 : (decide (x ≤ 0) || items.isEmpty) = true) :
    Meets (Builtin.«tuple.__mul__» ⟨[.ref l, .int x u], []⟩) (fun _ R s => s.heap.get? l = some { cls := .type "tuple", dict := dd, data := .seq items n, slots := sl } ∧
      R (.ok (.ret (Value.ref s.heap.objs.size))) { s with heap := s.heap.push { cls := Value.type "tuple", data := Data.seq #[] }, toks := s.toks }) :=
  .of_wp fun prog w A R s h => by
    obtain ⟨hp, g, d, tk, os⟩ := s
    obtain ⟨hl, h⟩ := h
    have f1 := AutoSeq1.idx_int
    wp_walk using wpAny_loadPart' hl
    repeat (first
      | (refine wpAny_ite_false (decide_eq_false (by rw [c0]; exact Bool.false_ne_true)) ?_; wp_walk using wpAny_loadPart' hl)
      | (refine wpAny_ite_false (decide_eq_false (by rw [c1]; exact Bool.false_ne_true)) ?_; wp_walk using wpAny_loadPart' hl)
      | (refine wpAny_ite_true (decide_eq_true c2) ?_; wp_walk using wpAny_loadPart' hl))
    exact ⟨_, rfl, h⟩
theorem int_rmul_listW (a : Int) (t : Tok) (l : Addr) (items : Array Value) (n : Nat) (dd : Option Addr) (sl : Array (Option Value)) :
    Meets (Builtin.«int.__rmul__» ⟨[.int a t, .ref l], []⟩) (fun _ R s => s.heap.get? l = some { cls := .type "list", dict := dd, data := .seq items n, slots := sl } ∧ R (.ok (.ret Value.notImplemented)) s) :=
  .of_wp fun prog w A R s h => by obtain ⟨hp, g, d, tk, os⟩ := s; obtain ⟨hl, h⟩ := h; wp_walk using wpAny_loadPart' hl; exact ⟨_, rfl, h⟩
theorem list_mulW (l : Addr) (items : Array Value) (n : Nat) (dd : Option Addr) (sl : Array (Option Value)) (x : Int) (u : Tok) (hc0 : ¬(!Builtin.List.listFitsIndex x) = true) (hc1 : ¬items.size * x.toNat > (2 ^ 63 - 1) / 8) (hc2 : ¬Builtin.List.listTooLong (items.size * x.toNat) = true) :
    Meets (Builtin.«list.__mul__» ⟨[.ref l, .int x u], []⟩) (fun _ R s => s.heap.get? l = some { cls := .type "list", dict := dd, data := .seq items n, slots := sl } ∧
      R (.ok (.ret (Value.ref s.heap.objs.size))) { s with heap := s.heap.push { cls := Value.type "list", data := Data.seq (List.foldl (fun x1 x2 => x1 ++ x2) #[] (List.replicate (if items.isEmpty = true then 0 else x.toNat) items)) }, toks := s.toks }) :=
  .of_wp fun prog w A R s h => by
    obtain ⟨hp, g, d, tk, os⟩ := s
    obtain ⟨hl, h⟩ := h
    have f1 := AutoSeq1.idx_int
    have hsz := PySem.AutoListH.joined_fits hc2
    wp_walk using wpAny_loadPart' hl
    repeat (first
      | (refine wpAny_ite_false (decide_eq_false hc0) ?_; wp_walk using wpAny_loadPart' hl)
      | (refine wpAny_ite_false (decide_eq_false hc1) ?_; wp_walk using wpAny_loadPart' hl)
      | (refine wpAny_ite_false (decide_eq_false hc2) ?_; wp_walk using wpAny_loadPart' hl)
      | (refine wpAny_ite_false (decide_eq_false (Nat.not_lt.mpr hsz)) ?_; wp_walk using wpAny_loadPart' hl))
    exact ⟨_, rfl, h⟩
end L2

namespace Ev
open PySem PySem.Spec L2
open PyProof.Rows hiding St
def i63 (k : Int) : Bool := decide (-(2 ^ 63) ≤ k) && decide (k < 2 ^ 63)
def mulD : D → D → Option RV
  | .int i, .int j => if mulOk i j = true then rI (i * j) else none
  | .tuple ds, .int k => if (i63 k && decide (ds.length * k.toNat ≤ sizeLine)) = true then some (.fz (.tuple (List.replicate k.toNat ds).flatten)) else none
  | .list ds, .int k => if (i63 k && decide (ds.length * k.toNat ≤ sizeLine)) = true then some (.fr (.list (List.replicate k.toNat ds).flatten)) else none
  | _, _ => none
theorem DpAll.rep {K : PySem.W.Frag} {Z : Hp} {ds : List PyData} {vs : List V} (h : DpAll K Z vs ds) : ∀ n : Nat, DpAll K Z (List.replicate n vs).flatten (List.replicate n ds).flatten
  | 0 => .nil
  | n + 1 => by rw [List.replicate_succ, List.replicate_succ, List.flatten_cons, List.flatten_cons]; exact h.append (DpAll.rep h n)
theorem repFlatNil {α : Type} : ∀ n : Nat, (List.replicate n ([] : List α)).flatten = []
  | 0 => rfl
  | n + 1 => by rw [List.replicate_succ, List.flatten_cons, repFlatNil n]; rfl
section
variable {X : Cx}
theorem mul_tups {pins : List (Addr × Obj)} {s : Shared} {σ : St} {H : Hp} {a : Addr} {k : Int} {xs : List V} {v u : Value} {Q : VK} (I : Inv X pins σ H s) (rx : RelV (.ref a) v) (ry : RelV (.int k) u) (ha : SqT X.K H a xs) (hk : i63 k = true) (hz : xs.length * k.toNat ≤ sizeLine)
    (q1 : (List.replicate k.toNat xs).flatten = xs → Q (.ref a) H) (q2 : ∀ p o, H p = none → o.dict = none → Q (.ref p) (upd H p (.frz o (.tup (List.replicate k.toNat xs).flatten)))) : wpAny (model X.prog X.w) X.A (binaryOp .Mult v u) (EP X pins σ Q) X.xe s := by
  cases rx
  obtain ⟨t, rfl⟩ := ry
  obtain ⟨its, r, ⟨⟨cls, dd, data, sl⟩, ho, hc, n, hd⟩, hs⟩ := I.tuple ha
  simp only at hc hd
  subst hc hd
  obtain ⟨hk1, hk2⟩ := Bool.and_eq_true_iff.mp hk
  have hk1 := of_decide_eq_true hk1
  have hk2 := of_decide_eq_true hk2
  have hle : its.length = xs.length := r.length.symm
  have c0 : (decide (k < -(2 ^ 63)) || decide (k ≥ 2 ^ 63)) = false := by
    rw [decide_eq_false (by omega), decide_eq_false (by omega)] <;> rfl
  have go : ∀ {R : Result → Shared → Prop}, (codeAny (model X.prog X.w) X.A (.call (.builtin "tuple.__mul__") ⟨[.ref a, .int k t], []⟩) R s → codeAny (model X.prog X.w) X.A (.call (.builtin "tuple.__mul__") ⟨[.ref a, .int k t], []⟩) R s) := fun h => h
  by_cases hsame : (its.toArray.isEmpty || k == 1) = true
  · have hfl : (List.replicate k.toNat xs).flatten = xs := by
      rcases Bool.or_eq_true_iff.mp hsame with h | h
      · have : its = [] := by simpa using h
        rw [this] at hle
        have : xs = [] := List.eq_nil_of_length_eq_zero hle.symm
        rw [this]; exact repFlatNil _
      · have : k = 1 := by simpa using h
        subst this
        show (List.replicate 1 xs).flatten = xs
        simp
    refine wpAny_binaryOp_repeat_ref (T := "tuple") (U := "int") (by decide) ⟨_, ho, rfl⟩ (fun s' => typeIs_int s' k t) noFill_tuple_mul F.fills_int_mul F.slot_int_rmul repeat_tuple F.slot_int_index.lookup
      (call_meets F.slot_int_rmul (typeIs_int s k t) F.entry_int_rmul (F.args_int_rmul_2 _ _) (int_rmul_tuple k t a its.toArray n dd sl)
        ⟨ho, rfl, ⟨_, ho, rfl⟩, call_meets F.slot_tuple_mul ⟨_, ho, rfl⟩ F.entry_tuple_mul (F.args_tuple_mul_2 _ _) (tuple_mulSame a its.toArray n dd sl k t c0 hsame) ⟨ho, ?_⟩⟩)
    exact ⟨.ref a, H, I, rfl, q1 hfl⟩
  · have hsame : (its.toArray.isEmpty || k == 1) = false := by simpa using hsame
    obtain ⟨he, hk1'⟩ := Bool.or_eq_false_iff.mp hsame
    have hk1' : k ≠ 1 := by simpa using hk1'
    by_cases hneg : k ≤ 0
    · have c2 : (decide (k ≤ 0) || its.toArray.isEmpty) = true := by rw [decide_eq_true hneg]; rfl
      refine wpAny_binaryOp_repeat_ref (T := "tuple") (U := "int") (by decide) ⟨_, ho, rfl⟩ (fun s' => typeIs_int s' k t) noFill_tuple_mul F.fills_int_mul F.slot_int_rmul repeat_tuple F.slot_int_index.lookup
        (call_meets F.slot_int_rmul (typeIs_int s k t) F.entry_int_rmul (F.args_int_rmul_2 _ _) (int_rmul_tuple k t a its.toArray n dd sl)
          ⟨ho, rfl, ⟨_, ho, rfl⟩, call_meets F.slot_tuple_mul ⟨_, ho, rfl⟩ F.entry_tuple_mul (F.args_tuple_mul_2 _ _) (tuple_mulNone a its.toArray n dd sl k t c0 hsame c2) ⟨ho, ?_⟩⟩)
      have hz0 : k.toNat = 0 := by omega
      rw [hz0] at q2
      refine ⟨.ref s.heap.objs.size, _, I.laid (t' := s.toks) (o := .frz { cls := .type "tuple", data := .seq ([] : List Value).toArray } (.tup [])) (fun b ob q => Heap.get?_push_of_some _ q) (Nat.le_refl _) ?_, rfl, q2 _ _ (I.hok.fresh (Nat.le_refl _)) rfl⟩
      exact tupF_ok (Nat.zero_le _) .nil (Heap.get?_push_size _ rfl)
    · have c2 : (decide (k ≤ 0) || its.toArray.isEmpty) = false := by rw [he, decide_eq_false hneg]; rfl
      have hsz0 : its.toArray.size = xs.length := by rw [List.size_toArray, hle]
      have hkk : ((k.toNat : Nat) : Int) = k := by omega
      have hm : ((its.toArray.size : Nat) : Int) * k ≤ (sizeLine : Nat) := by
        rw [hsz0, ← hkk]
        exact_mod_cast hz
      have flen : (List.replicate k.toNat its).flatten.length ≤ sizeLine := by
        rw [PyProof.Rows.lm_len_rep_flat, hle, Nat.mul_comm]; exact hz
      have c4 : Builtin.Tuple.tupleTooMany (((its.toArray.size : Nat) : Int) * k) = false := by
        unfold Builtin.Tuple.tupleTooMany
        exact decide_eq_false (by omega)
      have hsl := sizeLine_eq
      refine wpAny_binaryOp_repeat_ref (T := "tuple") (U := "int") (by decide) ⟨_, ho, rfl⟩ (fun s' => typeIs_int s' k t) noFill_tuple_mul F.fills_int_mul F.slot_int_rmul repeat_tuple F.slot_int_index.lookup
        (call_meets F.slot_int_rmul (typeIs_int s k t) F.entry_int_rmul (F.args_int_rmul_2 _ _) (int_rmul_tuple k t a its.toArray n dd sl)
          ⟨ho, rfl, ⟨_, ho, rfl⟩, call_meets F.slot_tuple_mul ⟨_, ho, rfl⟩ F.entry_tuple_mul (F.args_tuple_mul_2 _ _) (tuple_mulW a its.toArray n dd sl k t c0 hsame c2 (by omega) c4 (by rw [size_rep, List.size_toArray]; exact flen)) ⟨ho, ?_⟩⟩)
      rw [size_rep]
      refine ⟨.ref s.heap.objs.size, _, I.laid (t' := s.toks) (o := .frz { cls := .type "tuple", data := .seq (List.replicate k.toNat its).flatten.toArray } (.tup (List.replicate k.toNat xs).flatten)) (fun b ob q => Heap.get?_push_of_some _ q) (Nat.le_refl _) ?_, rfl, q2 _ _ (I.hok.fresh (Nat.le_refl _)) rfl⟩
      exact tupF_ok (by rw [PyProof.Rows.lm_len_rep_flat, Nat.mul_comm]; exact hz) (r.rep k.toNat) (Heap.get?_push_size _ rfl)
theorem mul_lists {pins : List (Addr × Obj)} {s : Shared} {σ : St} {H : Hp} {a : Addr} {k : Int} {xs : List V} {v u : Value} {Q : VK} (I : Inv X pins σ H s) (rx : RelV (.ref a) v) (ry : RelV (.int k) u) (ha : SqL X.K H a xs) (hk : i63 k = true) (hz : xs.length * k.toNat ≤ sizeLine)
    (q : ∀ p, H p = none → Q (.ref p) (upd H p (.lst (List.replicate k.toNat xs).flatten))) : wpAny (model X.prog X.w) X.A (binaryOp .Mult v u) (EP X pins σ Q) X.xe s := by
  cases rx
  obtain ⟨t, rfl⟩ := ry
  obtain ⟨its, r, ⟨⟨cls, dd, data, sl⟩, n, ho, hc, hdn, hd⟩, hs⟩ := I.list ha
  simp only at hc hd
  subst hc hd
  obtain ⟨hk1, hk2⟩ := Bool.and_eq_true_iff.mp hk
  have h1 := of_decide_eq_true hk1
  have h2 := of_decide_eq_true hk2
  have hl : xs.length = its.length := r.length
  have hlen : its.toArray.size * k.toNat ≤ sizeLine := by rw [List.size_toArray, ← hl]; exact hz
  have hcap : ¬ its.toArray.size * k.toNat > (2 ^ 63 - 1) / 8 := by
    have : (sizeLine : Nat) ≤ (2 ^ 63 - 1) / 8 := by decide
    omega
  have hfit : ¬ (!Builtin.List.listFitsIndex k) = true := by
    rw [fitsIndex_both h1 h2]
    exact Bool.false_ne_true
  have hlong : ¬ Builtin.List.listTooLong (its.toArray.size * k.toNat) = true := by
    rw [notLongL hlen]
    exact Bool.false_ne_true
  have hnew : List.foldl (fun x1 x2 => x1 ++ x2) #[] (List.replicate (if its.toArray.isEmpty = true then 0 else k.toNat) its.toArray) = (List.replicate k.toNat its).flatten.toArray := by
    rw [size_rep]
    cases its with
    | nil => simp
    | cons a r' => rw [if_neg (by simp)]
  refine wpAny_binaryOp_repeat_ref (T := "list") (U := "int") (by decide) ⟨_, ho, rfl⟩ (fun s' => typeIs_int s' k t) noFill_list_mul F.fills_int_mul F.slot_int_rmul repeat_list F.slot_int_index.lookup
    (call_meets F.slot_int_rmul (typeIs_int s k t) F.entry_int_rmul (F.args_int_rmul_2 _ _) (int_rmul_listW k t a its.toArray n dd sl)
      ⟨ho, rfl, ⟨_, ho, rfl⟩, call_meets F.slot_list_mul ⟨_, ho, rfl⟩ F.entry_list_mul (F.args_list_mul_2 _ _) (list_mulW a its.toArray n dd sl k t hfit hcap hlong) ⟨ho, ?_⟩⟩)
  rw [hnew]
  refine ⟨.ref s.heap.objs.size, _, I.laid (t' := s.toks) (o := .lst (List.replicate k.toNat xs).flatten) (fun b ob q => Heap.get?_push_of_some _ q) (Nat.le_refl _) ?_, rfl, q _ (I.hok.fresh (Nat.le_refl _))⟩
  exact ⟨by rw [PyProof.Rows.lm_len_rep_flat, Nat.mul_comm]; exact hz, _, 0, r.rep k.toNat, Heap.get?_push_size _ rfl⟩
theorem o_mul : OpR X (binaryOp .Mult) (rOp2 X.K mulD) := fun pins s σ H x y v u Q I rx ry ⟨Z, d, e, r, zh, zl, hx, hy, er, q⟩ => by
  unfold mulD at er
  split at er
  · rename_i i j
    split at er
    · rename_i hm
      cases er
      exact o_mulI pins s σ H x y v u Q I rx ry ⟨Z, .int i, .int j, _, zh, zl, hx, hy, show (if mulOk i j = true then rI (i * j) else none) = _ by rw [if_pos hm]; rfl, q⟩
    · cases er
  · rename_i ds k
    split at er
    · rename_i hm
      obtain ⟨h1, h2⟩ := Bool.and_eq_true_iff.mp hm
      have h2 := of_decide_eq_true h2
      cases er
      have hdp := hx.tupDp
      obtain ⟨a, us, rfl, ha, hda⟩ := hx.tuple zh
      have hy := hy.int
      subst hy
      have hz : us.length * k.toNat ≤ sizeLine := by rw [hda.length]; exact h2
      refine mul_tups I rx ry ha h1 hz (fun e => ?_) fun p o hp ho => q _ _ _ (.newTup zh zl hp ho (by rw [PyProof.Rows.lm_len_rep_flat, Nat.mul_comm]; exact hz) (hda.rep _))
      have e2 : (List.replicate k.toNat ds).flatten = ds := by
        have l1 := congrArg List.length e
        rw [PyProof.Rows.lm_len_rep_flat, hda.length] at l1
        rcases Nat.eq_zero_or_pos ds.length with h | h
        · rw [List.eq_nil_of_length_eq_zero h]; exact repFlatNil _
        · have : k.toNat = 1 := by
            rcases Nat.lt_or_ge k.toNat 1 with g | g
            · have : k.toNat = 0 := by omega
              rw [this] at l1; omega
            · rcases Nat.lt_or_ge 1 k.toNat with g2 | g2
              · have : 2 * ds.length ≤ k.toNat * ds.length := Nat.mul_le_mul_right _ g2
                omega
              · omega
          rw [this]; simp
      rw [e2] at q
      exact q _ H Z (.same zh zl hdp)
    · cases er
  · rename_i ds k
    split at er
    · rename_i hm
      obtain ⟨h1, h2⟩ := Bool.and_eq_true_iff.mp hm
      have h2 := of_decide_eq_true h2
      cases er
      obtain ⟨a, us, rfl, ha, hda⟩ := hx.list zh
      have hy := hy.int
      subst hy
      have hz : us.length * k.toNat ≤ sizeLine := by rw [hda.length]; exact h2
      exact mul_lists I rx ry ha h1 hz fun p hp => q _ _ _ (.newLst zh zl hp (by rw [PyProof.Rows.lm_len_rep_flat, Nat.mul_comm]; exact hz) (hda.rep _))
    · cases er
  · cases er
/-! ### slices -/
def cutD (ds : List D) (lo hi : Option Int) : List D := (ds.drop (HT.sIx ds.length 0 lo)).take (HT.sIx ds.length ds.length hi - HT.sIx ds.length 0 lo)
def slD : D → Option Int → Option Int → Option RV
  | .list ds, lo, hi => if ds.length ≤ sizeLine then some (.fr (.list (cutD ds lo hi))) else none
  | .tuple ds, lo, hi => some (.fz (.tuple (cutD ds lo hi)))
  | .str z, lo, hi => if z.length ≤ sizeLine then some (.fz (.str (cutS z lo hi))) else none
  | _, _, _ => none
abbrev OF := Ρ → Option (Option Int × Ρ)
def oNo : OF := fun ρ => some (none, ρ)
def oYes (f : EF) : OF := fun ρ => (fFz f ρ).bind fun p => match p.1 with
  | .fz (.int i) => some (some i, p.2)
  | _ => none
def fSl (g : D → Option Int → Option Int → Option RV) (fo : EF) (fl fh : OF) : EF := fun ρ => (fFz fo ρ).bind fun p => (fl p.2).bind fun l => (fh l.2).bind fun h => (rs h.2 p.1).bind fun d => (g d l.1 h.1).bind fun r => some (r, h.2)
def tO (K : PySem.W.Frag) (f : OF) : TO := fun σ H Q => ∃ Z ρ b ρ', EnvOk K H Z σ ρ ∧ f ρ = some (b, ρ') ∧ ∀ H' Z', Stp (OwnA σ ρ) H Z H' Z' → EnvOk K H' Z' σ ρ' → Ow σ ρ ρ' → Q b H'
structure EvO (X : Cx) (e : Option Expr) (f : OF) : Prop where
  po : PO X e (tO X.K f)
theorem poImp {e : Option Expr} {t t' : TO} (h : PO X e t) (i : ∀ σ H Q, t' σ H Q → t σ H Q) : PO X e t' := ⟨fun pins s σ H Q I q => h.run pins s σ H Q I (i σ H Q q)⟩
theorem eo_no : EvO X none oNo := ⟨poImp po_none fun σ H Q ⟨Z, ρ, b, ρ', E, e, q⟩ => by cases e; exact q H Z .refl E .refl⟩
theorem eo_yes {e : Expr} {f : EF} (h : EvE X e f) : EvO X (some e) (oYes f) := ⟨poImp (po_some h.pe) fun σ H Q ⟨Z, ρ, b, ρ', E, e, q⟩ => by
  obtain ⟨⟨r, ρ1⟩, e1, e⟩ := bs e
  refine tE_fz ⟨Z, ρ, r, ρ1, E, e1, fun v H1 Z1 P => ?_⟩
  have hrv := P.rv
  cases hrv with
  | fz hd =>
    cases hd with
    | int i => cases e; exact ⟨i, rfl, q H1 Z1 P.stp P.env P.ow⟩
    | _ => cases e
  | fr => cases e
  | bw => cases e⟩
def rSlD (K : PySem.W.Frag) (g : D → Option Int → Option Int → Option RV) : V → Option Int → Option Int → Hp → VK → Prop := fun x lo hi H Q => ∃ Z d r, Hsub Z H ∧ ZL Z ∧ Sh K H Z x d ∧ g d lo hi = some r ∧ ∀ v H' Z', Alc K H Z H' Z' v r → Q v H'
theorem DpAll.cut {K : PySem.W.Frag} {Z : Hp} {ds : List PyData} {vs : List V} {lo hi : Option Int} (h : DpAll K Z vs ds) : DpAll K Z (cutV vs lo hi) (cutD ds lo hi) := by
  unfold cutV cutD
  rw [h.length]
  exact (h.drop _).take _
theorem s_sl : SlR X (rSlD X.K slD) := fun pins s σ H x v vl vu lo hi sl Q I rx hs pl pu ⟨Z, d, r, zh, zl, hx, er, q⟩ => by
  unfold slD at er
  split at er
  · split at er
    · rename_i hz
      cases er
      obtain ⟨a, us, rfl, ha, hda⟩ := hx.list zh
      exact sl_list pins s σ H _ v vl vu lo hi sl Q I rx hs pl pu ⟨a, us, rfl, ha, fun p hp => q _ _ _ (.newLst zh zl hp (Nat.le_trans (cutV_length us lo hi) (by rw [hda.length]; exact hz)) hda.cut)⟩
    · cases er
  · rename_i ds
    cases er
    have hdp := hx.tupDp
    obtain ⟨a, us, rfl, ha, hda⟩ := hx.tuple zh
    by_cases hw : HT.sIx us.length 0 lo = 0 ∧ HT.sIx us.length us.length hi = us.length
    · refine sl_tupA pins s σ H _ v vl vu lo hi sl Q I rx hs pl pu ⟨a, us, rfl, ha, fun _ => ?_, fun n => absurd hw n⟩
      have hc : cutD ds lo hi = ds := by
        unfold cutD
        rw [← hda.length, hw.1, hw.2, List.drop_zero]
        exact List.take_of_length_le (by rw [hda.length]; omega)
      rw [hc] at q
      exact q _ H Z (.same zh zl hdp)
    · cases rx
      obtain ⟨its, r, ht, hz⟩ := I.tuple ha
      have hlen : its.toArray.size = us.length := by rw [List.size_toArray]; exact r.length.symm
      refine ⟨"tuple", _, PyProof.Rows.slot_tuple_getitem.lookup, ht.typeIs, ?_⟩
      refine HT.getItem_tuple_cut ht hs pl pu (by rw [hlen]; exact hw) ?_ (by rw [hlen]; exact hz)
      rw [hlen]
      have hzz : (cutV us lo hi).length ≤ sizeLine := Nat.le_trans (cutV_length us lo hi) hz
      have rr : Vals (cutV us lo hi) ((its.drop (HT.sIx us.length 0 lo)).take (HT.sIx us.length us.length hi - HT.sIx us.length 0 lo)) := (r.drop (HT.sIx us.length 0 lo)).take (HT.sIx us.length us.length hi - HT.sIx us.length 0 lo)
      refine ⟨.ref s.heap.objs.size, _, I.laid (t' := s.toks) (o := .frz _ (.tup (cutV us lo hi))) (fun b ob q => Heap.get?_push_of_some _ q) (Nat.le_refl _) (tupF_ok hzz rr (Heap.get?_push_size _ rfl)), rfl, q _ _ _ (.newTup zh zl (I.hok.fresh (Nat.le_refl _)) rfl hzz hda.cut)⟩
  · split at er
    · rename_i hz
      cases er
      exact sl_str pins s σ H x v vl vu lo hi sl Q I rx hs pl pu ⟨_, hx.str, hz, q _ H Z (.same zh zl (.str _))⟩
    · cases er
  · cases er
theorem ev_sl {e : Expr} {lo hi : Option Expr} {p2 pos : Pos} {g : D → Option Int → Option Int → Option RV} {fo : EF} {fl fh : OF} (hr : SlR X (rSlD X.K g)) (he : EvE X e fo) (hl : EvO X lo fl) (hu : EvO X hi fh) : EvE X (.Subscript e (.Slice lo hi none p2) pos) (fSl g fo fl fh) :=
  ⟨peImp (pe_slice hr he.pe hl.po hu.po) fun σ H Q ⟨Z, ρ, r, ρ', E, e, q⟩ => by
    obtain ⟨⟨x, ρ1⟩, e1, e⟩ := bs e
    obtain ⟨⟨l, ρ2⟩, e2, e⟩ := bs e
    obtain ⟨⟨h, ρ3⟩, e3, e⟩ := bs e
    obtain ⟨d, e4, e⟩ := bs e
    obtain ⟨r', e5, e⟩ := bs e
    cases e
    refine tE_fz ⟨Z, ρ, x, ρ1, E, e1, fun v H1 Z1 P1 => ⟨Z1, ρ1, l, ρ2, P1.env, e2, fun H2 Z2 s2 E2 o2 => ⟨Z2, ρ2, h, _, E2, e3, fun H3 Z3 s3 E3 o3 => ?_⟩⟩⟩
    have ra := (P1.rv.toRa (rs_isArg e4)).mono (s2.zz.trans s3.zz)
    refine ⟨Z3, d, _, E3.zh, E3.zl, ra.sh E3 e4, e5, fun w H4 Z4 A => q w H4 Z4 ?_⟩
    exact Post.trans ((P1.stp.trans (fun b h => .inl (P1.ow.ow b h)) s2).trans (fun b h => .inl ((P1.ow.trans o2).ow b h)) s3) ((P1.ow.trans o2).trans o3) (A.post E3)⟩
end
end Ev


set_option Elab.async false
set_option linter.all false
set_option maxRecDepth 100000
set_option maxHeartbeats 4000000
/-! Ev9: ranges as values, chains, small words for printed derivations, the law's end. -/
namespace Ev
open PySem PySem.Spec L2
open PyProof.Rows hiding St

structure Bl (mg : Str → Option Value) : Prop where
  len : mg "len" = none
  range : mg "range" = none
  abs : mg "abs" = none
  int : mg "int" = none
  tuple : mg "tuple" = none
  sorted : mg "sorted" = none
  set : mg "set" = none
  isinstance : mg "isinstance" = none
  list : mg "list" = none
  sum : mg "sum" = none
  max : mg "max" = none
  min : mg "min" = none
  any : mg "any" = none
  all : mg "all" = none
  dict : mg "dict" = none
  str : mg "str" = none
  bool : mg "bool" = none
theorem bb_len : bootBuiltins "len" = some (.builtin "len") := by decide +kernel
theorem bb_range : bootBuiltins "range" = some (.type "range") := by decide +kernel
theorem bb_abs : bootBuiltins "abs" = some (.builtin "abs") := by decide +kernel
theorem bb_int : bootBuiltins "int" = some (.type "int") := by decide +kernel
theorem bb_tuple : bootBuiltins "tuple" = some (.type "tuple") := by decide +kernel
theorem bb_sorted : bootBuiltins "sorted" = some (.builtin "sorted") := by decide +kernel
theorem bb_set : bootBuiltins "set" = some (.type "set") := by decide +kernel
theorem bb_isinstance : bootBuiltins "isinstance" = some (.builtin "isinstance") := by decide +kernel
theorem bb_list : bootBuiltins "list" = some (.type "list") := by decide +kernel
theorem bb_sum : bootBuiltins "sum" = some (.builtin "sum") := by decide +kernel
theorem bb_max : bootBuiltins "max" = some (.builtin "max") := by decide +kernel
theorem bb_min : bootBuiltins "min" = some (.builtin "min") := by decide +kernel
theorem bb_any : bootBuiltins "any" = some (.builtin "any") := by decide +kernel
theorem bb_all : bootBuiltins "all" = some (.builtin "all") := by decide +kernel
theorem bb_dict : bootBuiltins "dict" = some (.type "dict") := by decide +kernel
theorem bb_str : bootBuiltins "str" = some (.type "str") := by decide +kernel
theorem bb_bool : bootBuiltins "bool" = some (.type "bool") := by decide +kernel
theorem hu65 {k : Nat} {A : Around} (r : Room k A) : A.units + 65 < cLine := by have := r.un; omega
theorem hu64 {k : Nat} {A : Around} (r : Room k A) : A.units + 64 < cLine := by have := r.un; omega
theorem countD_ty (d : D) (as : List D) (r : RV) (h : countD d as = some r) : tyOf d ∈ ["list", "tuple"] := by
  unfold countD at h
  split at h
  · exact .head _
  · exact .tail _ (.head _)
  · cases h
theorem indexD_ty (d : D) (as : List D) (r : RV) (h : indexD d as = some r) : tyOf d ∈ ["list", "tuple"] := by
  unfold indexD at h
  split at h
  · exact .head _
  · exact .tail _ (.head _)
  · cases h
def iaddD : D → D → Option RV
  | .int i, .int j => rI (i + j)
  | .str x, .str y => if x.length + y.length ≤ sizeLine then some (.fz (.str (x ++ y))) else none
  | _, _ => none
section
variable {X : Cx}
theorem o_iadd : OpR X (inplaceOp .Add) (rOp2 X.K iaddD) := fun pins s σ H x y v u Q I rx ry ⟨Z, d, e, r, zh, zl, hx, hy, er, q⟩ => by
  unfold iaddD at er
  split at er
  · cases er
    exact iop_add pins s σ H x y v u Q I rx ry ⟨_, _, hx.int, hy.int, q _ H Z (.same zh zl (.int _))⟩
  · split at er
    · rename_i hl
      cases er
      exact iop_add_str pins s σ H x y v u Q I rx ry ⟨_, _, hx.str, hy.str, hl, q _ H Z (.same zh zl (.str _))⟩
    · cases er
  · cases er
/-! ### list(range(..)), tuple(range(..)) -/
def rgOk (a b : Int) : Bool := rOk a && rOk b && decide ((b - a).toNat ≤ 2 ^ 24)
theorem rgOk_of {a b : Int} (h : rgOk a b = true) : RgOk a b := by
  obtain ⟨h, h3⟩ := Bool.and_eq_true_iff.mp h
  obtain ⟨h1, h2⟩ := Bool.and_eq_true_iff.mp h
  exact ⟨(rOk_of h1).1, (rOk_of h1).2, (rOk_of h2).1, (rOk_of h2).2, of_decide_eq_true h3⟩
theorem rgV_dp {K : PySem.W.Frag} {Z : Hp} {a b : Int} : DpAll K Z (rgV a b) (rangeD a (b - a).toNat) := by
  unfold rgV rangeD
  generalize List.range (b - a).toNat = l
  induction l with
  | nil => exact .nil
  | cons k r ih => exact .cons (.int _) ih
def fListRg1 (f : EF) : EF := fun ρ => (fFz f ρ).bind fun p => match p.1 with
  | .fz (.int b) => if rgOk 0 b = true then some (.fr (.list (rangeD 0 (b - 0).toNat)), p.2) else none
  | _ => none
def fListRg2 (fa fb : EF) : EF := fun ρ => (fFz fa ρ).bind fun p => (fFz fb p.2).bind fun q => match p.1, q.1 with
  | .fz (.int a), .fz (.int b) => if rgOk a b = true then some (.fr (.list (rangeD a (b - a).toNat)), q.2) else none
  | _, _ => none
def fTupleRg1 (f : EF) : EF := fun ρ => (fFz f ρ).bind fun p => match p.1 with
  | .fz (.int b) => if rgOk 0 b = true then some (.fz (.tuple (rangeD 0 (b - 0).toNat)), p.2) else none
  | _ => none
def fTupleRg2 (fa fb : EF) : EF := fun ρ => (fFz fa ρ).bind fun p => (fFz fb p.2).bind fun q => match p.1, q.1 with
  | .fz (.int a), .fz (.int b) => if rgOk a b = true then some (.fz (.tuple (rangeD a (b - a).toNat)), q.2) else none
  | _, _ => none
/-- an expression that makes a range, by its pure bounds -/
def tPR (K : PySem.W.Frag) (g : Ρ → Option (Int × Int × Ρ)) : St → Hp → (Int → Int → Hp → Prop) → Prop := fun σ H Q => ∃ Z ρ a b ρ', EnvOk K H Z σ ρ ∧ g ρ = some (a, b, ρ') ∧ ∀ H' Z', Stp (OwnA σ ρ) H Z H' Z' → EnvOk K H' Z' σ ρ' → Ow σ ρ ρ' → Q a b H'
theorem prgImp {e : Expr} {t t' : St → Hp → (Int → Int → Hp → Prop) → Prop} (h : PRg X e t) (i : ∀ σ H Q, t' σ H Q → t σ H Q) : PRg X e t' := fun pins s σ H Q I q => h pins s σ H Q I (i σ H Q q)
def rg1 (f : EF) : Ρ → Option (Int × Int × Ρ) := fun ρ => (fFz f ρ).bind fun p => match p.1 with
  | .fz (.int b) => some (0, b, p.2)
  | _ => none
def rg2 (fa fb : EF) : Ρ → Option (Int × Int × Ρ) := fun ρ => (fFz fa ρ).bind fun p => (fFz fb p.2).bind fun q => match p.1, q.1 with
  | .fz (.int a), .fz (.int b) => some (a, b, q.2)
  | _, _ => none
theorem pr1 {a : Expr} {fa : EF} {p pos : Pos} (hg : Gl X "range") (hm : X.mg "range" = none) (ha : EvE X a fa) (na : starEach [a] X.env = (false, eval a X.env) :: starEach [] X.env := by rfl) : PRg X (.Call (.Name "range" p) [a] [] pos) (tPR X.K (rg1 fa)) :=
  prgImp (prg_1 hg hm ha.pe na) fun σ H Q ⟨Z, ρ, a, b, ρ', E, e, q⟩ => by
    obtain ⟨⟨r, ρ1⟩, e1, e⟩ := bs e
    refine tE_fz ⟨Z, ρ, r, ρ1, E, e1, fun v H1 Z1 P => ?_⟩
    have hrv := P.rv
    cases hrv with
    | fz hd =>
      cases hd with
      | int i => cases e; exact ⟨_, rfl, q H1 Z1 P.stp P.env P.ow⟩
      | _ => cases e
    | fr => cases e
    | bw => cases e
theorem pr2 {a b : Expr} {fa fb : EF} {p pos : Pos} (hg : Gl X "range") (hm : X.mg "range" = none) (ha : EvE X a fa) (hb : EvE X b fb) (na : starEach [a, b] X.env = (false, eval a X.env) :: starEach [b] X.env := by rfl)
    (nb : starEach [b] X.env = (false, eval b X.env) :: starEach [] X.env := by rfl) (hp : (backTo pos (starEach [b] X.env)).any (·.1) = false := by rfl) : PRg X (.Call (.Name "range" p) [a, b] [] pos) (tPR X.K (rg2 fa fb)) :=
  prgImp (prg_2 hg hm ha.pe hb.pe na nb hp) fun σ H Q ⟨Z, ρ, a, b, ρ', E, e, q⟩ => by
    obtain ⟨⟨r, ρ1⟩, e1, e⟩ := bs e
    obtain ⟨⟨r2, ρ2⟩, e2, e⟩ := bs e
    refine tE_fz ⟨Z, ρ, r, ρ1, E, e1, fun v H1 Z1 P => tE_fz ⟨Z1, ρ1, r2, ρ2, P.env, e2, fun u H2 Z2 P2 => ?_⟩⟩
    have hrv := P.rv
    have hrv2 := P2.rv
    cases hrv with
    | fz hd =>
      cases hd with
      | int i =>
        cases hrv2 with
        | fz hd =>
          cases hd with
          | int j => cases e; exact ⟨_, _, rfl, rfl, q H2 Z2 (P.stp.trans (fun b h => .inl (P.ow.ow b h)) P2.stp) P2.env (P.ow.trans P2.ow)⟩
          | _ => cases e
        | fr => cases e
        | bw => cases e
      | _ => cases e
    | fr => cases e
    | bw => cases e
theorem tE_lstRg {g : Ρ → Option (Int × Int × Ρ)} {σ : St} {H : Hp} {Q : VK} (h : tE X.K (fun ρ => (g ρ).bind fun p => if rgOk p.1 p.2.1 = true then some (.fr (.list (rangeD p.1 (p.2.1 - p.1).toNat)), p.2.2) else none) σ H Q) : tLstRg (tPR X.K g) σ H Q := by
  obtain ⟨Z, ρ, r, ρ', E, e, q⟩ := h
  obtain ⟨⟨a, b, ρ1⟩, e1, e⟩ := bs e
  dsimp only at e
  split at e
  · rename_i hr
    cases e
    have hz := rgOk_of hr
    refine ⟨Z, ρ, a, b, _, E, e1, fun H1 Z1 s1 E1 o1 => ⟨hz, fun p hp => q _ _ _ (Post.trans s1 o1 ((Alc.newLst E1.zh E1.zl hp ?_ rgV_dp).post E1))⟩⟩
    rw [rgV_length]; exact Nat.le_trans hz.2.2.2.2 (by decide)
  · cases e
/-- tuple(range(..)), known to its object -/
def tTupRgF (te : St → Hp → (Int → Int → Hp → Prop) → Prop) : TE := fun σ H Q => te σ H fun a b H1 => RgOk a b ∧ ∀ q o, H1 q = none → o.dict = none → Q (.ref q) (upd H1 q (.frz o (.tup (rgV a b))))
theorem pe_tupRgF {e : Expr} {te : St → Hp → (Int → Int → Hp → Prop) → Prop} {p pos : Pos} (hc : X.calm = true) (hg : Gl X "tuple") (hm : X.mg "tuple" = none) (he : PRg X e te) (na : starEach [e] X.env = (false, eval e X.env) :: starEach [] X.env := by rfl) : PE X (.Call (.Name "tuple" p) [e] [] pos) (tTupRgF te) := by
  refine ⟨fun pins s σ H Q I h => ?_⟩
  refine Call_ (ld_blt I hg hm boot_tuple (PyProof.Rows.callWith_type1 (args_cons (thn (he pins s σ H _ I h) fun x s1 ⟨r, a, b, t, u, v, H1, ex, hr, I1, ok, q⟩ => args_nil ?_) na) na))
  subst ex
  obtain ⟨b1, b2, b3, b4, b5⟩ := ok
  refine call_tuple_range (n := (b - a).toNat) (I1.ok.hd hc) hr (small_one b1 b2 b3 b4) (rangeSize_nat a b) b5 fun h' tk acc hk hi => ?_
  have I2 : Inv X pins σ H1 { s1 with heap := h', toks := tk } := I1.kept hk
  have hz : (rgV a b).length ≤ sizeLine := by rw [rgV_length, sizeLine_eq]; omega
  have e1 : ({ cls := .type "tuple", data := .seq acc } : Obj) = { cls := .type "tuple", data := .seq acc.toList.toArray } := by rw [Array.toArray_toList]
  refine ⟨.ref h'.objs.size, _, I2.laid (t' := tk) (o := .frz _ (.tup (rgV a b))) (fun c o e => Heap.get?_push_of_some _ e) (Nat.le_refl _) (tupF_ok hz (vals_rg hi) ?_), rfl, q _ _ (I2.hok.fresh (Nat.le_refl _)) rfl⟩
  rw [← e1]
  exact Heap.get?_push_size _ rfl
theorem tE_tupRg {g : Ρ → Option (Int × Int × Ρ)} {σ : St} {H : Hp} {Q : VK} (h : tE X.K (fun ρ => (g ρ).bind fun p => if rgOk p.1 p.2.1 = true then some (.fz (.tuple (rangeD p.1 (p.2.1 - p.1).toNat)), p.2.2) else none) σ H Q) : tTupRgF (tPR X.K g) σ H Q := by
  obtain ⟨Z, ρ, r, ρ', E, e, q⟩ := h
  obtain ⟨⟨a, b, ρ1⟩, e1, e⟩ := bs e
  dsimp only at e
  split at e
  · rename_i hr
    cases e
    have hz := rgOk_of hr
    refine ⟨Z, ρ, a, b, _, E, e1, fun H1 Z1 s1 E1 o1 => ⟨hz, fun p o hp ho => q _ _ _ (Post.trans s1 o1 ((Alc.newTup E1.zh E1.zl hp ho ?_ rgV_dp).post E1))⟩⟩
    rw [rgV_length]; exact Nat.le_trans hz.2.2.2.2 (by decide)
  · cases e
theorem rg1_eq {F : Int → Int → Ρ → Option (RV × Ρ)} (f : EF) (ρ : Ρ) : ((rg1 f ρ).bind fun p => F p.1 p.2.1 p.2.2) = (fFz f ρ).bind fun p => match p.1 with | .fz (.int b) => F 0 b p.2 | _ => none := by
  unfold rg1
  cases fFz f ρ with
  | none => rfl
  | some p =>
    obtain ⟨r, ρ1⟩ := p
    cases r with
    | fz d => cases d <;> rfl
    | fr d => rfl
    | bw i => rfl
theorem rg2_eq {F : Int → Int → Ρ → Option (RV × Ρ)} (fa fb : EF) (ρ : Ρ) : ((rg2 fa fb ρ).bind fun p => F p.1 p.2.1 p.2.2) = (fFz fa ρ).bind fun p => (fFz fb p.2).bind fun q => match p.1, q.1 with | .fz (.int a), .fz (.int b) => F a b q.2 | _, _ => none := by
  unfold rg2
  cases fFz fa ρ with
  | none => rfl
  | some p =>
    obtain ⟨r, ρ1⟩ := p
    show Option.bind (Option.bind (fFz fb ρ1) _) _ = Option.bind (fFz fb ρ1) _
    cases fFz fb ρ1 with
    | none => rfl
    | some q =>
      obtain ⟨r2, ρ2⟩ := q
      cases r with
      | fz d =>
        cases r2 with
        | fz e => cases d <;> cases e <;> rfl
        | fr e => cases d <;> rfl
        | bw i => cases d <;> rfl
      | fr d => rfl
      | bw i => rfl
theorem ev_listRg1 {a : Expr} {f : EF} {p p2 pos pos2 : Pos} (hg : Gl X "list") (hm : X.mg "list" = none) (hg2 : Gl X "range") (hm2 : X.mg "range" = none) (h : EvE X a f) (na : starEach [a] X.env = (false, eval a X.env) :: starEach [] X.env := by rfl)
    (na2 : starEach [.Call (.Name "range" p2) [a] [] pos2] X.env = (false, eval (.Call (.Name "range" p2) [a] [] pos2) X.env) :: starEach [] X.env := by rfl) (hc : X.calm = true := by rfl) : EvE X (.Call (.Name "list" p) [.Call (.Name "range" p2) [a] [] pos2] [] pos) (fListRg1 f) :=
  ⟨peImp (pe_listRg hc hg hm (pr1 hg2 hm2 h na) na2) fun σ H Q ⟨Z, ρ, r, ρ', E, e, q⟩ => tE_lstRg ⟨Z, ρ, r, ρ', E, by rw [← e]; exact rg1_eq (F := fun a b ρ => if rgOk a b = true then some (.fr (.list (rangeD a (b - a).toNat)), ρ) else none) f ρ, q⟩⟩
theorem ev_listRg2 {a b : Expr} {fa fb : EF} {p p2 pos pos2 : Pos} (hg : Gl X "list") (hm : X.mg "list" = none) (hg2 : Gl X "range") (hm2 : X.mg "range" = none) (ha : EvE X a fa) (hb : EvE X b fb) (na : starEach [a, b] X.env = (false, eval a X.env) :: starEach [b] X.env := by rfl) (nb : starEach [b] X.env = (false, eval b X.env) :: starEach [] X.env := by rfl)
    (hp : (backTo pos2 (starEach [b] X.env)).any (·.1) = false := by rfl) (na2 : starEach [.Call (.Name "range" p2) [a, b] [] pos2] X.env = (false, eval (.Call (.Name "range" p2) [a, b] [] pos2) X.env) :: starEach [] X.env := by rfl) (hc : X.calm = true := by rfl) : EvE X (.Call (.Name "list" p) [.Call (.Name "range" p2) [a, b] [] pos2] [] pos) (fListRg2 fa fb) :=
  ⟨peImp (pe_listRg hc hg hm (pr2 hg2 hm2 ha hb na nb hp) na2) fun σ H Q ⟨Z, ρ, r, ρ', E, e, q⟩ => tE_lstRg ⟨Z, ρ, r, ρ', E, by rw [← e]; exact rg2_eq (F := fun a b ρ => if rgOk a b = true then some (.fr (.list (rangeD a (b - a).toNat)), ρ) else none) fa fb ρ, q⟩⟩
theorem ev_tupleRg1 {a : Expr} {f : EF} {p p2 pos pos2 : Pos} (hg : Gl X "tuple") (hm : X.mg "tuple" = none) (hg2 : Gl X "range") (hm2 : X.mg "range" = none) (h : EvE X a f) (na : starEach [a] X.env = (false, eval a X.env) :: starEach [] X.env := by rfl)
    (na2 : starEach [.Call (.Name "range" p2) [a] [] pos2] X.env = (false, eval (.Call (.Name "range" p2) [a] [] pos2) X.env) :: starEach [] X.env := by rfl) (hc : X.calm = true := by rfl) : EvE X (.Call (.Name "tuple" p) [.Call (.Name "range" p2) [a] [] pos2] [] pos) (fTupleRg1 f) :=
  ⟨peImp (pe_tupRgF hc hg hm (pr1 hg2 hm2 h na) na2) fun σ H Q ⟨Z, ρ, r, ρ', E, e, q⟩ => tE_tupRg ⟨Z, ρ, r, ρ', E, by rw [← e]; exact rg1_eq (F := fun a b ρ => if rgOk a b = true then some (.fz (.tuple (rangeD a (b - a).toNat)), ρ) else none) f ρ, q⟩⟩
theorem ev_tupleRg2 {a b : Expr} {fa fb : EF} {p p2 pos pos2 : Pos} (hg : Gl X "tuple") (hm : X.mg "tuple" = none) (hg2 : Gl X "range") (hm2 : X.mg "range" = none) (ha : EvE X a fa) (hb : EvE X b fb) (na : starEach [a, b] X.env = (false, eval a X.env) :: starEach [b] X.env := by rfl) (nb : starEach [b] X.env = (false, eval b X.env) :: starEach [] X.env := by rfl)
    (hp : (backTo pos2 (starEach [b] X.env)).any (·.1) = false := by rfl) (na2 : starEach [.Call (.Name "range" p2) [a, b] [] pos2] X.env = (false, eval (.Call (.Name "range" p2) [a, b] [] pos2) X.env) :: starEach [] X.env := by rfl) (hc : X.calm = true := by rfl) : EvE X (.Call (.Name "tuple" p) [.Call (.Name "range" p2) [a, b] [] pos2] [] pos) (fTupleRg2 fa fb) :=
  ⟨peImp (pe_tupRgF hc hg hm (pr2 hg2 hm2 ha hb na nb hp) na2) fun σ H Q ⟨Z, ρ, r, ρ', E, e, q⟩ => tE_tupRg ⟨Z, ρ, r, ρ', E, by rw [← e]; exact rg2_eq (F := fun a b ρ => if rgOk a b = true then some (.fz (.tuple (rangeD a (b - a).toNat)), ρ) else none) fa fb ρ, q⟩⟩
end

/-- a def of the text (no defaults) keeps its pure function's promise -/
theorem fn_okD {P : Program} {w : World} {K : PySem.W.Frag} {mg : Str → Option Value} {base : Heap} {x qual : Str} {st : Stmt} {f : Addr} {fd : FuncData} {N ps : List Str} {k : Nat} {body : SF} (Fd : FunD K x qual (defArgs st) (defBody st) (defScope st) [] [] f fd) (S : FnScope N ps (defScope st))
    (hbody : ∀ (cdv : Value) (A : Around) (outer : List Env) (s : Shared) (H : Hp) (E : XK), Room k (A.deeper (envOfC qual (defScope st) s.heap.objs.size f cdv)) →
      EvB (cxOf CX0 P w K mg base N qual (defScope st) f cdv A outer s H E).nox (defBody st) body) : FnOk P w K mg base CX0 (k + 1) f fd ps (spF K (fnOf ps.length N.length body)) := by
  have len : ∀ {vs : List V} {as : List Slot} {r : RV} {os : List D} {H Z : Hp}, EnvOk K H Z (vs.map some) as → fnOf ps.length N.length body as = some (r, os) → vs.length = ps.length ∧ as.length = ps.length := fun {vs as r os H Z} E e => by
    unfold fnOf at e
    split at e
    · rename_i h
      have := E.len
      rw [List.length_map] at this
      exact ⟨this.trans h, h⟩
    · cases e
  refine Fd.ok S (fun vs H Q E h => ?_) (fun cdv A outer s H vs Q E hr h => ⟨_, (hbody cdv A outer s H E hr).pss.nox, ?_⟩)
  · obtain ⟨Z, as, r, os, ap, E, e, _⟩ := h
    exact (len E e).1
  · obtain ⟨Z, as, r, os, ap, E, e, q⟩ := h
    obtain ⟨l1, l2⟩ := len E e
    have e : (if as.length = ps.length then (body (as ++ List.replicate (N.length - ps.length) .no)).bind _ else none) = some (r, os) := e
    rw [if_pos l2] at e
    obtain ⟨⟨c, ρ'⟩, e1, e⟩ := bs e
    obtain ⟨o, e2, e⟩ := bs e
    have E1 := startEnv (N := N) E l1
    refine ⟨Z, _, c, ρ', E1, e1, fun σ' H' Z' P => ?_⟩
    rw [← l1] at P
    cases c with
    | nx => cases e; exact q .non H' Z' (fn_end ap E P e2 (.inl rfl) (fun _ z => nomatch z) (.fz .non) fun _ _ z => nomatch z)
    | bk => cases e
    | rt r' =>
      cases r' with
      | fz d =>
        cases e
        intro v rv nw
        rw [← l1] at nw
        exact q v H' Z' (fn_end ap E P e2 (.inl rfl) (fun _ z => nomatch z) rv nw)
      | fr d =>
        cases e
        intro v rv nw
        rw [← l1] at nw
        exact q v H' Z' (fn_end ap E P e2 (.inr ⟨d, rfl⟩) (fun _ z => nomatch z) rv nw)
      | bw i => cases e
/-- the law's end: the pure law at every script -/
theorem law_end {K : PySem.W.Frag} {H : Hp} {a : Addr} {ns : List Int} {F : Fn} (hl : ns.length ≤ 63) (hO : Only H) (hS : SqL K H a (ns.map V.int)) (h : ∃ o, F [.val (.list (ns.map PyData.int))] = some (.fz (.bool true), o)) : spF K F [.ref a] H (fun v _ => v = .bl true) fun _ _ _ => False := by
  obtain ⟨o, h⟩ := h
  have hd : ∀ Z : Hp, DpAll K Z (ns.map V.int) (ns.map PyData.int) := fun Z => by
    clear hl h hS
    induction ns with
    | nil => exact .nil
    | cons n r ih => exact .cons (.int n) ih
  refine ⟨H, [.val (.list (ns.map PyData.int))], _, o, fun i d => ?_, ⟨rfl, .refl, fun b u hb => ?_, fun i d hd' => ?_, fun i s d hs hm => ?_, fun i j s t d e b h1 m1 h2 m2 => ?_⟩, h, fun v H' Z' P => ?_⟩
  · cases i with
    | zero => intro z; cases z
    | succ i => simp
  · rcases hO b with z | ⟨ob, xs, z⟩
    · rw [z] at hb; cases hb
    · rw [z] at hb; cases hb; trivial
  · cases i with
    | zero => cases hd'; exact ⟨_, rfl, .lst hS (hd H)⟩
    | succ i => simp at hd'
  · cases i with
    | zero => cases hs; cases hm
    | succ i => simp at hs
  · cases i with
    | zero => cases h1; cases m1
    | succ i => simp at h1
  · have := P.rv
    cases this; rfl
end Ev


set_option Elab.async false
set_option linter.all false
set_option maxRecDepth 100000
/-! Ev12: sum, max, min, any, all over lists and tuples -/
namespace Ev
open PySem PySem.Spec L2
open PyProof.Rows hiding St
section
variable {prog : Program} {w : World} {A : Around} {E : Value → Shared → Prop} {s : Shared} {l : Addr} {its : List Value} {ns : List Int} {Q : Value → Shared → Prop}
theorem old_keptT {h' : Heap} (hk : ∀ b o, b ∉ [s.heap.objs.size] → (s.heap.push { cls := .type "tuple_iterator", data := .fields #[.ref l, .int 0 0] }).get? b = some o → h'.get? b = some o) :
    ∀ b o, s.heap.get? b = some o → h'.get? b = some o := fun b o e => by
  refine hk b o (fun hm => ?_) (Heap.get?_push_of_some _ e)
  rcases List.mem_cons.mp hm with e1 | hm
  · exact absurd (e1 ▸ Heap.lt_size e) (Nat.lt_irrefl _)
  · cases hm
theorem iter_tup {items : Array Value} (hl : s.heap.IsTuple l items)
    (h : ∀ s₂ : Shared, s₂ = { s with heap := s.heap.push { cls := .type "tuple_iterator", data := .fields #[.ref l, .int 0 0] } } →
      (s₂.heap.IsTupleIter s.heap.objs.size l 0 ∧ s₂.heap.IsTuple l items) → (∀ b ∈ [s.heap.objs.size, l], b < s₂.heap.objs.size) → l ≠ s.heap.objs.size → Q (.ref s.heap.objs.size) s₂) :
    wpAny (model prog w) A (pyIter (.ref l)) Q E s := by
  have hlt : l < s.heap.objs.size := by obtain ⟨_, e, _⟩ := hl; exact Heap.lt_size e
  refine wpAny_pyIter_tuple hl (h _ rfl ⟨⟨_, Heap.get?_push_size _ rfl, rfl, rfl⟩, hl.push _⟩ (fun b hb => ?_) (Nat.ne_of_lt hlt))
  show b < (s.heap.push _).objs.size
  rw [Heap.size_push]
  rcases List.mem_cons.mp hb with rfl | hb
  · exact Nat.lt_succ_self _
  · rcases List.mem_cons.mp hb with rfl | hb
    · exact Nat.lt_succ_of_lt hlt
    · cases hb
theorem sum_rawT (hh : A.handled = none) (hl : s.heap.IsTuple l its.toArray) (hi : IntsAre its ns)
    (h : ∀ h' tk t', (∀ b o, s.heap.get? b = some o → h'.get? b = some o) → Q (.int ns.sum t') { s with heap := h', toks := tk }) : wpAny (model prog w) A (call (.builtin "sum") [.ref l]) Q E s := by
  obtain ⟨xs, e⟩ := hi.allInts.items
  have hn : numsOf (intItems xs).toList = ns := by rw [← e]; exact hi.numsOf
  rw [nums_intItems] at hn
  rw [e] at hl
  refine PySem.call_sum_walkG (iter_tup hl fun s₂ e st hfp hlI => ?_)
  subst e
  refine ⟨_, _, _, _, _, _, numAt xs, rfl, Walks.tuple (A := A.in1) hh _ l hlI (intItems xs), st, hfp, (fun _ _ => intItems_at), fun h' tk t' hk => ?_⟩
  have := h h' tk t' (old_keptT hk)
  have e2 : preSum (numAt xs) (intItems xs).size = ns.sum := by
    rw [show (intItems xs).size = xs.size by simp [intItems], preSum_eq, List.take_of_length_le (by simp), hn]
  rw [e2]; exact this
theorem max_rawT (hh : A.handled = none) (hl : s.heap.IsTuple l its.toArray) (hi : IntsAre its ns) (hne : 0 < ns.length)
    (h : ∀ h' tk M t', (∀ b o, s.heap.get? b = some o → h'.get? b = some o) → M ∈ ns → (∀ a, a ∈ ns → a ≤ M) → Q (.int M t') { s with heap := h', toks := tk }) : wpAny (model prog w) A (call (.builtin "max") [.ref l]) Q E s := by
  obtain ⟨xs, e⟩ := hi.allInts.items
  have hn : numsOf (intItems xs).toList = ns := by rw [← e]; exact hi.numsOf
  rw [nums_intItems] at hn
  subst hn
  rw [e] at hl
  have hsz : 0 < xs.size := by simpa using hne
  refine call_max_walk (iter_tup hl fun s₂ e st hfp hlI => ?_)
  subst e
  refine ⟨_, _, _, _, _, _, _, rfl, Walks.tuple (A := A.in1) hh _ l hlI (intItems xs), st, hfp, by simpa [intItems] using hsz, CmpOf.ints_gt (numAt xs) (fun _ _ => intItems_at), fun v h' tk hP hk => ?_⟩
  have hv : (intItems xs)[argBest (fun i j => decide (numAt xs i > numAt xs j)) (xs.size - 1)]? = some v := by simpa [intItems] using hP
  obtain ⟨t, rfl⟩ := intItems_at hv
  obtain ⟨h1, h2⟩ := argBest_gt (numAt xs) (xs.size - 1)
  refine h h' tk _ t (old_keptT hk) ?_ fun a ha => ?_
  · rw [numAt_eq]; exact PySem.getD_mem (by rw [List.length_map, Array.length_toList]; omega)
  · obtain ⟨j, hj, rfl⟩ := mem_getD ha
    rw [List.length_map, Array.length_toList] at hj
    rw [← numAt_eq]; exact h2 j (by omega)
theorem min_rawT (hh : A.handled = none) (hl : s.heap.IsTuple l its.toArray) (hi : IntsAre its ns) (hne : 0 < ns.length)
    (h : ∀ h' tk M t', (∀ b o, s.heap.get? b = some o → h'.get? b = some o) → M ∈ ns → (∀ a, a ∈ ns → M ≤ a) → Q (.int M t') { s with heap := h', toks := tk }) : wpAny (model prog w) A (call (.builtin "min") [.ref l]) Q E s := by
  obtain ⟨xs, e⟩ := hi.allInts.items
  have hn : numsOf (intItems xs).toList = ns := by rw [← e]; exact hi.numsOf
  rw [nums_intItems] at hn
  subst hn
  rw [e] at hl
  have hsz : 0 < xs.size := by simpa using hne
  refine call_min_walk (iter_tup hl fun s₂ e st hfp hlI => ?_)
  subst e
  refine ⟨_, _, _, _, _, _, _, rfl, Walks.tuple (A := A.in1) hh _ l hlI (intItems xs), st, hfp, by simpa [intItems] using hsz, CmpOf.ints_lt (numAt xs) (fun _ _ => intItems_at), fun v h' tk hP hk => ?_⟩
  have hv : (intItems xs)[argBest (fun i j => decide (numAt xs i < numAt xs j)) (xs.size - 1)]? = some v := by simpa [intItems] using hP
  obtain ⟨t, rfl⟩ := intItems_at hv
  obtain ⟨h1, h2⟩ := argBest_lt (numAt xs) (xs.size - 1)
  refine h h' tk _ t (old_keptT hk) ?_ fun a ha => ?_
  · rw [numAt_eq]; exact PySem.getD_mem (by rw [List.length_map, Array.length_toList]; omega)
  · obtain ⟨j, hj, rfl⟩ := mem_getD ha
    rw [List.length_map, Array.length_toList] at hj
    rw [← numAt_eq]; exact h2 j (by omega)
end
section
variable {X : Cx}
def sum2D : List D → Option RV
  | [.list ds] => (intsOf ds).bind fun is => rI is.sum
  | [.tuple ds] => (intsOf ds).bind fun is => rI is.sum
  | _ => none
theorem c_sum2 (hc : X.calm = true) : CallR X (.builtin "sum") (rOpN X.K sum2D) := fun pins s σ H xs us Q I rr ⟨Z, ds, r, zh, zl, hs, er, q⟩ => by
  unfold sum2D at er
  split at er
  · obtain ⟨x, rfl, hx⟩ := sh1 hs
    obtain ⟨is, e1, er⟩ := bs er
    cases er
    obtain ⟨a, us', rfl, ha, hda⟩ := hx.list zh
    rw [ints_dp hda e1] at ha
    exact cr_sum hc pins s σ H _ us Q I rr ⟨a, is, rfl, ha, q _ H Z (.same zh zl (.int _))⟩
  · obtain ⟨x, rfl, hx⟩ := sh1 hs
    obtain ⟨is, e1, er⟩ := bs er
    cases er
    obtain ⟨a, us', rfl, ha, hda⟩ := hx.tuple zh
    rw [ints_dp hda e1] at ha
    obtain ⟨its, rv, hl, _⟩ := I.tuple ha
    rw [Vals.ref1 rr]
    exact sum_rawT (I.ok.hd hc) hl rv.ints fun h' tk t' hk => ⟨.int _, H, I.kept hk, ⟨_, rfl⟩, q _ H Z (.same zh zl (.int _))⟩
  · cases er
def maxI : List Int → Int
  | [] => 0
  | [x] => x
  | x :: y :: r => max x (maxI (y :: r))
def minI : List Int → Int
  | [] => 0
  | [x] => x
  | x :: y :: r => min x (minI (y :: r))
theorem maxI_mem : ∀ {l : List Int}, 0 < l.length → maxI l ∈ l ∧ ∀ a, a ∈ l → a ≤ maxI l
  | [x], _ => ⟨by simp [maxI], by simp [maxI]⟩
  | x :: y :: r, _ => by
    obtain ⟨h1, h2⟩ := maxI_mem (l := y :: r) (by simp)
    refine ⟨?_, fun a ha => ?_⟩
    · show max x (maxI (y :: r)) ∈ _
      rcases Int.le_total x (maxI (y :: r)) with h | h
      · rw [Int.max_eq_right h]; exact List.mem_cons_of_mem _ h1
      · rw [Int.max_eq_left h]; exact List.mem_cons_self ..
    · show a ≤ max x (maxI (y :: r))
      rcases List.mem_cons.mp ha with rfl | ha
      · omega
      · have := h2 a ha; omega
theorem minI_mem : ∀ {l : List Int}, 0 < l.length → minI l ∈ l ∧ ∀ a, a ∈ l → minI l ≤ a
  | [x], _ => ⟨by simp [minI], by simp [minI]⟩
  | x :: y :: r, _ => by
    obtain ⟨h1, h2⟩ := minI_mem (l := y :: r) (by simp)
    refine ⟨?_, fun a ha => ?_⟩
    · show min x (minI (y :: r)) ∈ _
      rcases Int.le_total x (minI (y :: r)) with h | h
      · rw [Int.min_eq_left h]; exact List.mem_cons_self ..
      · rw [Int.min_eq_right h]; exact List.mem_cons_of_mem _ h1
    · show min x (minI (y :: r)) ≤ a
      rcases List.mem_cons.mp ha with rfl | ha
      · omega
      · have := h2 a ha; omega
def maxD : List D → Option RV
  | [.list ds] => (intsOf ds).bind fun is => if 0 < is.length then rI (maxI is) else none
  | [.tuple ds] => (intsOf ds).bind fun is => if 0 < is.length then rI (maxI is) else none
  | _ => none
def minD : List D → Option RV
  | [.list ds] => (intsOf ds).bind fun is => if 0 < is.length then rI (minI is) else none
  | [.tuple ds] => (intsOf ds).bind fun is => if 0 < is.length then rI (minI is) else none
  | _ => none
theorem c_max (hc : X.calm = true) : CallR X (.builtin "max") (rOpN X.K maxD) := fun pins s σ H xs us Q I rr ⟨Z, ds, r, zh, zl, hs, er, q⟩ => by
  unfold maxD at er
  split at er
  · obtain ⟨x, rfl, hx⟩ := sh1 hs
    obtain ⟨is, e1, er⟩ := bs er
    split at er
    · rename_i hp
      cases er
      obtain ⟨a, us', rfl, ha, hda⟩ := hx.list zh
      rw [ints_dp hda e1] at ha
      refine cr_max hc pins s σ H _ us Q I rr ⟨a, is, rfl, ha, hp, fun m hm hle => ?_⟩
      obtain ⟨h1, h2⟩ := maxI_mem hp
      rw [show m = maxI is from Int.le_antisymm (h2 m hm) (hle _ h1)]
      exact q _ H Z (.same zh zl (.int _))
    · cases er
  · obtain ⟨x, rfl, hx⟩ := sh1 hs
    obtain ⟨is, e1, er⟩ := bs er
    split at er
    · rename_i hp
      cases er
      obtain ⟨a, us', rfl, ha, hda⟩ := hx.tuple zh
      rw [ints_dp hda e1] at ha
      obtain ⟨its, rv, hl, _⟩ := I.tuple ha
      rw [Vals.ref1 rr]
      refine max_rawT (I.ok.hd hc) hl rv.ints hp fun h' tk m t' hk hm hle => ⟨.int m, H, I.kept hk, ⟨_, rfl⟩, ?_⟩
      obtain ⟨h1, h2⟩ := maxI_mem hp
      rw [show m = maxI is from Int.le_antisymm (h2 m hm) (hle _ h1)]
      exact q _ H Z (.same zh zl (.int _))
    · cases er
  · cases er
theorem c_min (hc : X.calm = true) : CallR X (.builtin "min") (rOpN X.K minD) := fun pins s σ H xs us Q I rr ⟨Z, ds, r, zh, zl, hs, er, q⟩ => by
  unfold minD at er
  split at er
  · obtain ⟨x, rfl, hx⟩ := sh1 hs
    obtain ⟨is, e1, er⟩ := bs er
    split at er
    · rename_i hp
      cases er
      obtain ⟨a, us', rfl, ha, hda⟩ := hx.list zh
      rw [ints_dp hda e1] at ha
      refine cr_min hc pins s σ H _ us Q I rr ⟨a, is, rfl, ha, hp, fun m hm hle => ?_⟩
      obtain ⟨h1, h2⟩ := minI_mem hp
      rw [show m = minI is from Int.le_antisymm (hle _ h1) (h2 m hm)]
      exact q _ H Z (.same zh zl (.int _))
    · cases er
  · obtain ⟨x, rfl, hx⟩ := sh1 hs
    obtain ⟨is, e1, er⟩ := bs er
    split at er
    · rename_i hp
      cases er
      obtain ⟨a, us', rfl, ha, hda⟩ := hx.tuple zh
      rw [ints_dp hda e1] at ha
      obtain ⟨its, rv, hl, _⟩ := I.tuple ha
      rw [Vals.ref1 rr]
      refine min_rawT (I.ok.hd hc) hl rv.ints hp fun h' tk m t' hk hm hle => ⟨.int m, H, I.kept hk, ⟨_, rfl⟩, ?_⟩
      obtain ⟨h1, h2⟩ := minI_mem hp
      rw [show m = minI is from Int.le_antisymm (hle _ h1) (h2 m hm)]
      exact q _ H Z (.same zh zl (.int _))
    · cases er
  · cases er
def boolsOf : List D → Option (List Bool)
  | [] => some []
  | .bool i :: r => (boolsOf r).bind fun is => some (i :: is)
  | _ => none
theorem bools_dp {K : PySem.W.Frag} {Z : Hp} : ∀ {ds : List D} {us : List V} {is : List Bool}, DpAll K Z us ds → boolsOf ds = some is → us = is.map V.bl
  | [], _, _, h, e => by cases h; cases e; rfl
  | d :: ds, _, is, h, e => by
    cases h with
    | cons h1 h2 =>
      cases h1 with
      | bl i =>
        obtain ⟨is', e1, e⟩ := bs e
        cases e
        rw [bools_dp h2 e1]; rfl
      | _ => cases e
def anyD : List D → Option RV
  | [.list ds] => (boolsOf ds).bind fun is => rB (is.any id)
  | _ => none
def allD : List D → Option RV
  | [.list ds] => (boolsOf ds).bind fun is => rB (is.all id)
  | _ => none
theorem c_any (hc : X.calm = true) : CallR X (.builtin "any") (rOpN X.K anyD) := callImp (cr_any hc) fun xs H Q ⟨Z, ds, r, zh, zl, hs, er, q⟩ => by
  unfold anyD at er
  split at er
  · obtain ⟨x, rfl, hx⟩ := sh1 hs
    obtain ⟨is, e1, er⟩ := bs er
    cases er
    obtain ⟨a, us, rfl, ha, hda⟩ := hx.list zh
    rw [bools_dp hda e1] at ha
    exact ⟨a, is, rfl, ha, q _ H Z (.same zh zl (.bl _))⟩
  · cases er
theorem c_all (hc : X.calm = true) : CallR X (.builtin "all") (rOpN X.K allD) := callImp (cr_all hc) fun xs H Q ⟨Z, ds, r, zh, zl, hs, er, q⟩ => by
  unfold allD at er
  split at er
  · obtain ⟨x, rfl, hx⟩ := sh1 hs
    obtain ⟨is, e1, er⟩ := bs er
    cases er
    obtain ⟨a, us, rfl, ha, hda⟩ := hx.list zh
    rw [bools_dp hda e1] at ha
    exact ⟨a, is, rfl, ha, q _ H Z (.same zh zl (.bl _))⟩
  · cases er
end
end Ev


set_option Elab.async false
set_option linter.all false
/-! the pure side: weakest preconditions, for simp to walk by -/
namespace Ev
open PySem PySem.Spec L2
def wO {α : Type} (o : Option α) (Q : α → Prop) : Prop := ∃ a, o = some a ∧ Q a
def wE (f : EF) (ρ : Ρ) (Q : RV → Ρ → Prop) : Prop := wO (f ρ) fun p => Q p.1 p.2
def wA (f : AF) (ρ : Ρ) (Q : List RV → Ρ → Prop) : Prop := wO (f ρ) fun p => Q p.1 p.2
def wT (f : TF) (ρ : Ρ) (Q : Bool → Ρ → Prop) : Prop := wO (f ρ) fun p => Q p.1 p.2
def wS (f : SF) (ρ : Ρ) (Q : Ctl → Ρ → Prop) : Prop := wO (f ρ) fun p => Q p.1 p.2
def wI (f : IF) (ρ : Ρ) (Q : List D → Ρ → Prop) : Prop := wO (f ρ) fun p => Q p.1 p.2
def wG (g : GF) (d : D) (ρ : Ρ) (Q : Ρ → Prop) : Prop := wO (g d ρ) Q
def wGs (g : List D → Ρ → Option Ρ) (ds : List D) (ρ : Ρ) (Q : Ρ → Prop) : Prop := wO (g ds ρ) Q
def wL (g : GF) (b : SF) (ds : List D) (ρ : Ρ) (Q : Ctl → Ρ → Prop) : Prop := wO (forL g b ds ρ) fun p => Q p.1 p.2
def wW (c : TF) (b : SF) (n : Nat) (ρ : Ρ) (Q : Ctl → Ρ → Prop) : Prop := wO (whileL c b n ρ) fun p => Q p.1 p.2
def wC (g : GF) (t : TF) (e : EF) (vs : List Nat) (ds : List D) (ρ : Ρ) (Q : List D → Ρ → Prop) : Prop := wO (compL g t e vs ds ρ) fun p => Q p.1 p.2
def wX (f : OF) (ρ : Ρ) (Q : Option Int → Ρ → Prop) : Prop := wO (f ρ) fun p => Q p.1 p.2
def wF (F : Fn) (as : List Slot) (Q : RV → List D → Prop) : Prop := wO (F as) fun p => Q p.1 p.2
/-! ### wO -/
section
variable {α β : Type}
theorem wO_some (a : α) (Q : α → Prop) : wO (some a) Q = Q a := propext ⟨fun ⟨_, e, h⟩ => by cases e; exact h, fun h => ⟨a, rfl, h⟩⟩
theorem wO_none (Q : α → Prop) : wO none Q = False := propext ⟨fun ⟨_, e, _⟩ => (nomatch e), False.elim⟩
theorem wO_bind (o : Option α) (f : α → Option β) (Q : β → Prop) : wO (o.bind f) Q = wO o fun a => wO (f a) Q := by
  cases o with
  | none => rw [Option.bind_none, wO_none, wO_none]
  | some a => rw [Option.bind_some, wO_some]
theorem wO_if (c : Prop) [Decidable c] (o : Option α) (Q : α → Prop) : wO (if c then o else none) Q = (c ∧ wO o Q) := by
  by_cases h : c
  · rw [if_pos h]; exact propext ⟨fun x => ⟨h, x⟩, fun x => x.2⟩
  · rw [if_neg h, wO_none]; exact propext ⟨False.elim, fun x => h x.1⟩
theorem wO_ite (c : Prop) [Decidable c] (o p : Option α) (Q : α → Prop) : wO (if c then o else p) Q = ((c → wO o Q) ∧ (¬c → wO p Q)) := by
  by_cases h : c
  · rw [if_pos h]; exact propext ⟨fun x => ⟨fun _ => x, fun z => absurd h z⟩, fun x => x.1 h⟩
  · rw [if_neg h]; exact propext ⟨fun x => ⟨fun z => absurd z h, fun _ => x⟩, fun x => x.2 h⟩
theorem wO.mono {o : Option α} {Q Q' : α → Prop} (h : wO o Q) (i : ∀ a, Q a → Q' a) : wO o Q' := let ⟨a, e, q⟩ := h; ⟨a, e, i a q⟩
theorem wO_of {o : Option α} {a : α} {Q : α → Prop} (e : o = some a) (h : Q a) : wO o Q := ⟨a, e, h⟩
theorem wO_cg {o o' : Option α} {Q : α → Prop} (h : o = o') : wO o Q = wO o' Q := by rw [h]
end
theorem wE_cg {f : EF} {ρ ρ' : Ρ} {Q : RV → Ρ → Prop} (h : ρ = ρ') : wE f ρ Q = wE f ρ' Q := by rw [h]
theorem wA_cg {f : AF} {ρ ρ' : Ρ} {Q : List RV → Ρ → Prop} (h : ρ = ρ') : wA f ρ Q = wA f ρ' Q := by rw [h]
theorem wT_cg {f : TF} {ρ ρ' : Ρ} {Q : Bool → Ρ → Prop} (h : ρ = ρ') : wT f ρ Q = wT f ρ' Q := by rw [h]
theorem wS_cg {f : SF} {ρ ρ' : Ρ} {Q : Ctl → Ρ → Prop} (h : ρ = ρ') : wS f ρ Q = wS f ρ' Q := by rw [h]
theorem wI_cg {f : IF} {ρ ρ' : Ρ} {Q : List D → Ρ → Prop} (h : ρ = ρ') : wI f ρ Q = wI f ρ' Q := by rw [h]
theorem wL_cg {g : GF} {b : SF} {ds ds' : List D} {ρ ρ' : Ρ} {Q : Ctl → Ρ → Prop} (h : ρ = ρ') (h2 : ds = ds') : wL g b ds ρ Q = wL g b ds' ρ' Q := by rw [h, h2]
theorem wW_cg {g : TF} {b : SF} {n : Nat} {ρ ρ' : Ρ} {Q : Ctl → Ρ → Prop} (h : ρ = ρ') : wW g b n ρ Q = wW g b n ρ' Q := by rw [h]
theorem wC_cg {g : GF} {t : TF} {e : EF} {vs : List Nat} {ds ds' : List D} {ρ ρ' : Ρ} {Q : List D → Ρ → Prop} (h : ρ = ρ') (h2 : ds = ds') : wC g t e vs ds ρ Q = wC g t e vs ds' ρ' Q := by rw [h, h2]
theorem wG_cg {g : GF} {d d' : D} {ρ ρ' : Ρ} {Q : Ρ → Prop} (h : ρ = ρ') (h2 : d = d') : wG g d ρ Q = wG g d' ρ' Q := by rw [h, h2]
theorem wF_cg {F : Fn} {as as' : List Slot} {Q : RV → List D → Prop} (h : as = as') : wF F as Q = wF F as' Q := by rw [h]
theorem wE.mono {f : EF} {ρ : Ρ} {Q Q' : RV → Ρ → Prop} (h : wE f ρ Q) (i : ∀ a b, Q a b → Q' a b) : wE f ρ Q' := wO.mono h fun _ => i _ _
theorem wS.mono {f : SF} {ρ : Ρ} {Q Q' : Ctl → Ρ → Prop} (h : wS f ρ Q) (i : ∀ a b, Q a b → Q' a b) : wS f ρ Q' := wO.mono h fun _ => i _ _
/-! ### slots -/
def wSl : Ρ → Nat → (Slot → Prop) → Prop
  | s :: _, 0, k => k s
  | _ :: ρ, n + 1, k => wSl ρ n k
  | [], _, _ => False
theorem wSl_0 (s : Slot) (ρ : Ρ) (k : Slot → Prop) : wSl (s :: ρ) 0 k = k s := rfl
theorem wSl_s (s : Slot) (ρ : Ρ) (n : Nat) (k : Slot → Prop) : wSl (s :: ρ) (n + 1) k = wSl ρ n k := rfl
theorem wSl_eq : ∀ (ρ : Ρ) (i : Nat) (k : Slot → Prop), wSl ρ i k = wO ρ[i]? k
  | [], i, k => by rw [List.getElem?_nil, wO_none]; rfl
  | s :: ρ, 0, k => by rw [List.getElem?_cons_zero, wO_some]; rfl
  | s :: ρ, n + 1, k => by rw [List.getElem?_cons_succ]; exact wSl_eq ρ n k
/-- one slot set anew -/
def wP : Ρ → Nat → Slot → (Ρ → Prop) → Prop
  | _ :: ρ, 0, t, k => k (t :: ρ)
  | s :: ρ, n + 1, t, k => wP ρ n t fun ρ' => k (s :: ρ')
  | [], _, _, _ => False
theorem wP_0 (s : Slot) (ρ : Ρ) (t : Slot) (k : Ρ → Prop) : wP (s :: ρ) 0 t k = k (t :: ρ) := rfl
theorem wP_s (s : Slot) (ρ : Ρ) (n : Nat) (t : Slot) (k : Ρ → Prop) : wP (s :: ρ) (n + 1) t k = wP ρ n t fun ρ' => k (s :: ρ') := rfl
theorem wP_eq : ∀ (ρ : Ρ) (i : Nat) (t : Slot) (k : Ρ → Prop), wP ρ i t k = (i < ρ.length ∧ k (ρ.set i t))
  | [], i, t, k => propext ⟨False.elim, fun h => absurd h.1 (Nat.not_lt_zero _)⟩
  | s :: ρ, 0, t, k => propext ⟨fun h => ⟨Nat.succ_pos _, h⟩, fun h => h.2⟩
  | s :: ρ, n + 1, t, k => by
    show wP ρ n t _ = _
    rw [wP_eq ρ n]
    exact propext ⟨fun h => ⟨Nat.succ_lt_succ h.1, h.2⟩, fun h => ⟨Nat.lt_of_succ_lt_succ h.1, h.2⟩⟩
theorem wP_of {ρ : Ρ} {i : Nat} {s : Slot} (h : ρ[i]? = some s) (t : Slot) (k : Ρ → Prop) : wP ρ i t k = k (ρ.set i t) := by
  rw [wP_eq]
  exact propext ⟨fun h => h.2, fun z => ⟨(List.getElem?_eq_some_iff.mp h).1, z⟩⟩
theorem wSl_cg {ρ ρ' : Ρ} {i : Nat} {k : Slot → Prop} (h : ρ = ρ') : wSl ρ i k = wSl ρ' i k := by rw [h]
theorem wP_cg {ρ ρ' : Ρ} {i : Nat} {t t' : Slot} {k : Ρ → Prop} (h : ρ = ρ') (h2 : t = t') : wP ρ i t k = wP ρ' i t' k := by rw [h, h2]
/-- a plain set: not of an in-out slot -/
def kW (i : Nat) (ρ : Ρ) (t : Slot) (k : Ρ → Prop) : Slot → Prop
  | .io _ => False
  | _ => wP ρ i t k
theorem kW_no (i ρ t k) : kW i ρ t k .no = wP ρ i t k := rfl
theorem kW_val (i ρ t k d) : kW i ρ t k (.val d) = wP ρ i t k := rfl
theorem kW_own (i ρ t k d) : kW i ρ t k (.own d) = wP ρ i t k := rfl
/-- a loop's name: not yet set, or a value -/
def ov : Option D → Slot
  | none => .no
  | some d => .val d
theorem kW_ov (i ρ t k o) : kW i ρ t k (ov o) = wP ρ i t k := by cases o <;> rfl
theorem plain_no : Slot.plain .no = true := rfl
theorem plain_val (d : D) : Slot.plain (.val d) = true := rfl
theorem plain_ov (o : Option D) : (ov o).plain = true := by cases o <;> rfl
theorem wO_setSlot (ρ : Ρ) (i : Nat) (t : Slot) (k : Ρ → Prop) : wO (setSlot ρ i t) k = wSl ρ i (kW i ρ t k) := by
  rw [wSl_eq]
  unfold setSlot
  cases h : ρ[i]? with
  | none => simp only [wO_none]
  | some s => cases s <;> simp only [wO_some, wO_none, kW] <;> rw [wP_of h]
/-! ### expressions -/
section
variable (ρ : Ρ) (Q : RV → Ρ → Prop)
theorem wE_C (d : D) : wE (fC d) ρ Q = Q (.fz d) ρ := wO_some ..
def kB (i : Nat) (ρ : Ρ) (Q : RV → Ρ → Prop) : Slot → Prop
  | .val d => Q (.fz d) ρ
  | .own _ => Q (.bw i) ρ
  | .io _ => Q (.bw i) ρ
  | .no => False
theorem kB_val (i ρ Q d) : kB i ρ Q (.val d) = Q (.fz d) ρ := rfl
theorem kB_own (i ρ Q d) : kB i ρ Q (.own d) = Q (.bw i) ρ := rfl
theorem kB_io (i ρ Q d) : kB i ρ Q (.io d) = Q (.bw i) ρ := rfl
theorem wE_B (i : Nat) : wE (fB i) ρ Q = wSl ρ i (kB i ρ Q) := by
  rw [wSl_eq]; unfold wE fB
  cases ρ[i]? with
  | none => simp only [wO_none]
  | some s => cases s <;> simp only [wO_some, wO_none, kB]
def kV (i : Nat) (ρ : Ρ) (Q : RV → Ρ → Prop) : Slot → Prop
  | .val d => Q (.fz d) ρ
  | .own (.list ds) => wP ρ i (.val (.list ds)) (Q (.fz (.list ds)))
  | _ => False
theorem kV_val (i ρ Q d) : kV i ρ Q (.val d) = Q (.fz d) ρ := rfl
theorem kV_own (i ρ Q ds) : kV i ρ Q (.own (.list ds)) = wP ρ i (.val (.list ds)) (Q (.fz (.list ds))) := rfl
theorem wE_V (i : Nat) : wE (fV i) ρ Q = wSl ρ i (kV i ρ Q) := by
  rw [wSl_eq]; unfold wE fV
  cases h : ρ[i]? with
  | none => simp only [wO_none]
  | some s =>
    cases s with
    | own d => cases d <;> simp only [wO_some, wO_none, kV] <;> rw [wP_of h]
    | _ => simp only [wO_some, wO_none, kV]
def kM (i : Nat) (ρ : Ρ) (Q : RV → Ρ → Prop) : Slot → Prop
  | .val d => Q (.fz d) ρ
  | .own d => wP ρ i .no (Q (.fr d))
  | _ => False
theorem kM_val (i ρ Q d) : kM i ρ Q (.val d) = Q (.fz d) ρ := rfl
theorem kM_own (i ρ Q d) : kM i ρ Q (.own d) = wP ρ i .no (Q (.fr d)) := rfl
theorem wE_M (i : Nat) : wE (fM i) ρ Q = wSl ρ i (kM i ρ Q) := by
  rw [wSl_eq]; unfold wE fM
  cases h : ρ[i]? with
  | none => simp only [wO_none]
  | some s => cases s <;> simp only [wO_some, wO_none, kM] <;> rw [wP_of h]
def kF (Q : RV → Ρ → Prop) : RV → Ρ → Prop
  | .fr (.list ds), ρ => Q (.fz (.list ds)) ρ
  | r, ρ => Q r ρ
theorem kF_fz (Q ρ d) : kF Q (.fz d) ρ = Q (.fz d) ρ := rfl
theorem kF_bw (Q ρ i) : kF Q (.bw i) ρ = Q (.bw i) ρ := rfl
theorem kF_fr (Q ρ ds) : kF Q (.fr (.list ds)) ρ = Q (.fz (.list ds)) ρ := rfl
theorem wE_F (f : EF) : wE (fFz f) ρ Q = wE f ρ (kF Q) := by
  unfold wE fFz
  cases f ρ with
  | none => simp only [wO_none]
  | some p =>
    obtain ⟨r, ρ1⟩ := p
    cases r with
    | fr d => cases d <;> simp only [wO_some, kF]
    | _ => simp only [wO_some, kF]
/-- what a reading is, borrowed or not -/
def wR (ρ : Ρ) : RV → (D → Prop) → Prop
  | .fz d, k => k d
  | .fr _, _ => False
  | .bw i, k => wSl ρ i fun s => match s with
    | .no => False
    | .val d => k d
    | .own d => k d
    | .io d => k d
theorem wR_fz (ρ d k) : wR ρ (.fz d) k = k d := rfl
def kCt (k : D → Prop) : Slot → Prop
  | .no => False
  | .val d => k d
  | .own d => k d
  | .io d => k d
theorem kCt_val (k d) : kCt k (.val d) = k d := rfl
theorem kCt_own (k d) : kCt k (.own d) = k d := rfl
theorem kCt_io (k d) : kCt k (.io d) = k d := rfl
theorem wR_bw (ρ i k) : wR ρ (.bw i) k = wSl ρ i (kCt k) := by
  show wSl ρ i _ = wSl ρ i _
  refine congrArg _ ?_
  funext s; cases s <;> rfl
theorem wO_rs (r : RV) (k : D → Prop) : wO (rs ρ r) k = wR ρ r k := by
  cases r with
  | fz d => exact wO_some ..
  | fr d => exact wO_none _
  | bw i =>
    rw [wR_bw, wSl_eq]
    show wO ((ρ[i]?).bind Slot.ct) k = _
    rw [wO_bind]
    congr 1
    funext s
    cases s <;> simp only [Slot.ct, wO_some, wO_none, kCt]
theorem wE_bin (g : D → D → Option RV) (fa fb : EF) : wE (fBin g fa fb) ρ Q = wE fa ρ (kF fun p ρ1 => wE fb ρ1 (kF fun q ρ2 => wR ρ2 p fun d => wR ρ2 q fun e => wO (g d e) fun r => Q r ρ2)) := by
  rw [← wE_F]
  show wO (Option.bind _ _) _ = _
  rw [wO_bind]
  unfold wE
  congr 1; funext p
  rw [wO_bind]
  show _ = wE fb p.2 (kF _)
  rw [← wE_F]
  show _ = wO _ _
  congr 1; funext q
  simp only [wO_bind, wO_rs, wO_some]
theorem wE_un (g : D → Option RV) (fa : EF) : wE (fUn g fa) ρ Q = wE fa ρ (kF fun p ρ1 => wR ρ1 p fun d => wO (g d) fun r => Q r ρ1) := by
  rw [← wE_F]
  show wO (Option.bind _ _) _ = _
  rw [wO_bind]
  unfold wE
  congr 1; funext p
  simp only [wO_bind, wO_rs, wO_some]
theorem wA_nil (Q : List RV → Ρ → Prop) : wA aNil ρ Q = Q [] ρ := wO_some ..
/-- an argument: no fresh one -/
def kA (Q : RV → Ρ → Prop) : RV → Ρ → Prop
  | .fr (.list ds), ρ => Q (.fz (.list ds)) ρ
  | .fr _, _ => False
  | r, ρ => Q r ρ
theorem kA_fz (Q ρ d) : kA Q (.fz d) ρ = Q (.fz d) ρ := rfl
theorem kA_bw (Q ρ i) : kA Q (.bw i) ρ = Q (.bw i) ρ := rfl
theorem kA_fr (Q ρ ds) : kA Q (.fr (.list ds)) ρ = Q (.fz (.list ds)) ρ := rfl
theorem wA_cons (f : EF) (fs : AF) (Q : List RV → Ρ → Prop) : wA (aCons f fs) ρ Q = wE f ρ (kA fun r ρ1 => wA fs ρ1 fun rs ρ2 => Q (r :: rs) ρ2) := by
  have e : (kA fun r ρ1 => wA fs ρ1 fun rs ρ2 => Q (r :: rs) ρ2) = kF fun r ρ1 => r.isArg = true ∧ wA fs ρ1 fun rs ρ2 => Q (r :: rs) ρ2 := by
    funext r ρ1
    cases r with
    | fr d => cases d <;> simp [kA, kF, RV.isArg]
    | _ => simp [kA, kF, RV.isArg]
  rw [e, ← wE_F]
  show wO (Option.bind _ _) _ = _
  rw [wO_bind]
  unfold wE
  congr 1; funext p
  rw [wO_if, wO_bind]
  simp only [wO_some, wA]
/-- the arguments as data -/
def wRs (ρ : Ρ) : List RV → (List D → Prop) → Prop
  | [], k => k []
  | r :: t, k => wR ρ r fun d => wRs ρ t fun ds => k (d :: ds)
theorem wRs_nil (ρ k) : wRs ρ [] k = k [] := rfl
theorem wRs_cons (ρ r t k) : wRs ρ (r :: t) k = wR ρ r fun d => wRs ρ t fun ds => k (d :: ds) := rfl
theorem wO_rsAll : ∀ (l : List RV) (k : List D → Prop), wO (rsAll ρ l) k = wRs ρ l k
  | [], k => wO_some ..
  | r :: t, k => by
    show wO (Option.bind _ _) _ = _
    rw [wO_bind, wO_rs]
    show _ = wR ρ r _
    congr 1; funext d
    rw [wO_bind, wO_rsAll t]
    congr 1; funext ds
    exact wO_some ..
theorem wE_args (g : List D → Option RV) (fs : AF) : wE (fArgs g fs) ρ Q = wA fs ρ fun rs ρ1 => wRs ρ1 rs fun ds => wO (g ds) fun r => Q r ρ1 := by
  show wO (Option.bind _ _) _ = _
  rw [wO_bind]
  unfold wA
  congr 1; funext p
  rw [wO_bind, wO_rsAll]
  congr 1; funext ds
  rw [wO_bind]
  congr 1; funext r
  exact wO_some ..
def wZ : List RV → (List D → Prop) → Prop
  | [], k => k []
  | .fz d :: t, k => wZ t fun ds => k (d :: ds)
  | _ :: _, _ => False
theorem wZ_nil (k) : wZ [] k = k [] := rfl
theorem wZ_cons (d t k) : wZ (.fz d :: t) k = wZ t fun ds => k (d :: ds) := rfl
theorem wO_fzAll : ∀ (l : List RV) (k : List D → Prop), wO (fzAll l) k = wZ l k
  | [], k => wO_some ..
  | .fz d :: t, k => by
    show wO (Option.bind _ _) _ = _
    rw [wO_bind, wO_fzAll t]
    show wZ t _ = wZ t _
    congr 1; funext ds
    exact wO_some ..
  | .fr _ :: _, k => wO_none _
  | .bw _ :: _, k => wO_none _
def szB (n : Nat) : Prop := n ≤ sizeLine
theorem szB_of {n : Nat} (h : n ≤ 16777216) : szB n := by unfold szB sizeLine; omega
def kSz (ds : List D) (p : Prop) : Prop := szB ds.length ∧ p
theorem kSz_0 (p) : kSz [] p = p := propext ⟨fun h => h.2, fun h => ⟨szB_of (by decide), h⟩⟩
theorem kSz_1 (a p) : kSz [a] p = p := propext ⟨fun h => h.2, fun h => ⟨szB_of (by simp), h⟩⟩
theorem kSz_2 (a b p) : kSz [a, b] p = p := propext ⟨fun h => h.2, fun h => ⟨szB_of (by simp), h⟩⟩
theorem kSz_3 (a b c p) : kSz [a, b, c] p = p := propext ⟨fun h => h.2, fun h => ⟨szB_of (by simp), h⟩⟩
theorem kSz_4 (a b c d p) : kSz [a, b, c, d] p = p := propext ⟨fun h => h.2, fun h => ⟨szB_of (by simp), h⟩⟩
theorem kSz_5 (a b c d e p) : kSz [a, b, c, d, e] p = p := propext ⟨fun h => h.2, fun h => ⟨szB_of (by simp), h⟩⟩
theorem kSz_6 (a b c d e f p) : kSz [a, b, c, d, e, f] p = p := propext ⟨fun h => h.2, fun h => ⟨szB_of (by simp), h⟩⟩
theorem kSz_7 (a b c d e f g p) : kSz [a, b, c, d, e, f, g] p = p := propext ⟨fun h => h.2, fun h => ⟨szB_of (by simp), h⟩⟩
theorem kSz_8 (a b c d e f g h' p) : kSz [a, b, c, d, e, f, g, h'] p = p := propext ⟨fun h => h.2, fun h => ⟨szB_of (by simp), h⟩⟩
theorem wE_tup (fs : AF) : wE (fTup fs) ρ Q = wA fs ρ fun rs ρ1 => wZ rs fun ds => kSz ds (Q (.fz (.tuple ds)) ρ1) := by
  show wO (Option.bind _ _) _ = _
  rw [wO_bind]
  unfold wA
  congr 1; funext p
  rw [wO_bind, wO_fzAll]
  congr 1; funext ds
  rw [wO_if, wO_some]; rfl
theorem wE_lst (fs : AF) : wE (fLst fs) ρ Q = wA fs ρ fun rs ρ1 => wZ rs fun ds => kSz ds (Q (.fr (.list ds)) ρ1) := by
  show wO (Option.bind _ _) _ = _
  rw [wO_bind]
  unfold wA
  congr 1; funext p
  rw [wO_bind, wO_fzAll]
  congr 1; funext ds
  rw [wO_if, wO_some]; rfl
def kT (Q : Bool → Ρ → Prop) : RV → Ρ → Prop
  | .fz (.bool b), ρ => Q b ρ
  | _, _ => False
theorem kT_bool (Q b ρ) : kT Q (.fz (.bool b)) ρ = Q b ρ := rfl
theorem wT_tst (f : EF) (Q : Bool → Ρ → Prop) : wT (fTst f) ρ Q = wE f ρ (kT Q) := by
  show wO (Option.bind _ _) _ = _
  rw [wO_bind]
  unfold wE
  congr 1; funext p
  obtain ⟨r, ρ1⟩ := p
  cases r with
  | fz d => cases d <;> first | exact wO_some .. | exact wO_none _
  | _ => exact wO_none _
theorem wO_cond {α : Type} (b : Bool) (o p : Option α) (Q : α → Prop) : wO (if b = true then o else p) Q = ((b = true → wO o Q) ∧ (b = false → wO p Q)) := by
  cases b <;> simp
theorem wT_and (f g : TF) (Q : Bool → Ρ → Prop) : wT (fAnd f g) ρ Q = wT f ρ fun b ρ1 => (b = true → wT g ρ1 Q) ∧ (b = false → Q false ρ1) := by
  show wO (Option.bind _ _) _ = _
  rw [wO_bind]
  unfold wT
  congr 1; funext p
  rw [wO_cond]; simp only [wO_some]
theorem wT_or (f g : TF) (Q : Bool → Ρ → Prop) : wT (fOr f g) ρ Q = wT f ρ fun b ρ1 => (b = true → Q true ρ1) ∧ (b = false → wT g ρ1 Q) := by
  show wO (Option.bind _ _) _ = _
  rw [wO_bind]
  unfold wT
  congr 1; funext p
  rw [wO_cond]; simp only [wO_some]
theorem wT_not (f : TF) (Q : Bool → Ρ → Prop) : wT (fNot f) ρ Q = wT f ρ fun b ρ1 => Q (!b) ρ1 := by
  show wO (Option.bind _ _) _ = _
  rw [wO_bind]
  unfold wT
  congr 1; funext p
  exact wO_some ..
theorem wT_yes (Q : Bool → Ρ → Prop) : wT fYes ρ Q = Q true ρ := wO_some ..
theorem wE_bool (f : TF) : wE (fBool f) ρ Q = wT f ρ fun b ρ1 => Q (.fz (.bool b)) ρ1 := by
  show wO (Option.bind _ _) _ = _
  rw [wO_bind]
  unfold wT
  congr 1; funext p
  exact wO_some ..
theorem wE_if (t : TF) (fa fb : EF) : wE (fIf t fa fb) ρ Q = wT t ρ fun b ρ1 => (b = true → wE fa ρ1 Q) ∧ (b = false → wE fb ρ1 Q) := by
  show wO (Option.bind _ _) _ = _
  rw [wO_bind]
  unfold wT
  congr 1; funext p
  rw [wO_cond]; rfl
/-! calls -/
def kAs (w : (List Slot → List Nat → Prop) → Prop) (i : Nat) (k : List Slot → List Nat → Prop) : Slot → Prop
  | .val d => w fun ss ix => k (.val d :: ss) ix
  | .own d => w fun ss ix => k (.io d :: ss) (i :: ix)
  | .io d => w fun ss ix => k (.io d :: ss) (i :: ix)
  | .no => False
def wAs (ρ : Ρ) : List RV → (List Slot → List Nat → Prop) → Prop
  | [], k => k [] []
  | .fz d :: r, k => wAs ρ r fun ss ix => k (.val d :: ss) ix
  | .bw i :: r, k => wSl ρ i (kAs (wAs ρ r) i k)
  | .fr _ :: _, _ => False
theorem kAs_val (w i k d) : kAs w i k (.val d) = w fun ss ix => k (.val d :: ss) ix := rfl
theorem kAs_own (w i k d) : kAs w i k (.own d) = w fun ss ix => k (.io d :: ss) (i :: ix) := rfl
theorem kAs_io (w i k d) : kAs w i k (.io d) = w fun ss ix => k (.io d :: ss) (i :: ix) := rfl
theorem wAs_nil (ρ k) : wAs ρ [] k = k [] [] := rfl
theorem wAs_fz (ρ d r k) : wAs ρ (.fz d :: r) k = wAs ρ r fun ss ix => k (.val d :: ss) ix := rfl
theorem wAs_bw (ρ i r k) : wAs ρ (.bw i :: r) k = wSl ρ i (kAs (wAs ρ r) i k) := rfl
theorem wO_argSlots (ρ : Ρ) : ∀ (l : List RV) (k : List Slot → List Nat → Prop), wO (argSlots ρ l) (fun ss => k ss (ioIx ρ l)) = wAs ρ l k
  | [], k => wO_some ..
  | .fz d :: t, k => by
    show wO (Option.bind _ _) _ = wAs ρ t _
    rw [wO_bind, ← wO_argSlots ρ t]
    congr 1; funext ds
    exact wO_some ..
  | .fr _ :: _, k => wO_none _
  | .bw i :: t, k => by
    rw [wAs_bw, wSl_eq]
    unfold argSlots ioIx
    cases ρ[i]? with
    | none => simp only [wO_none]
    | some s => cases s <;> simp only [wO_bind, wO_some, wO_none, kAs, ← wO_argSlots ρ t]
def kOut (ρ : Ρ) (ix : List Nat) (Q : RV → Ρ → Prop) : RV × List D → Prop := fun r => wO (putIo ρ ix r.2) fun ρ2 => match r.1 with
  | .bw _ => False
  | x => Q x ρ2
/-- nothing in-out -/
theorem kOut_nil (ρ Q d) : kOut ρ [] Q (.fz d, []) = Q (.fz d) ρ := by
  show wO (some ρ) _ = _
  rw [wO_some]
theorem kOut_nilr (ρ Q d) : kOut ρ [] Q (.fr d, []) = Q (.fr d) ρ := by
  show wO (some ρ) _ = _
  rw [wO_some]
def kPut (i : Nat) (ρ : Ρ) (d : D) (k : Ρ → Prop) : Slot → Prop
  | .own _ => wP ρ i (.own d) k
  | .io _ => wP ρ i (.io d) k
  | _ => False
theorem kPut_own (i ρ d k x) : kPut i ρ d k (.own x) = wP ρ i (.own d) k := rfl
theorem kPut_io (i ρ d k x) : kPut i ρ d k (.io x) = wP ρ i (.io d) k := rfl
theorem wO_putAt (i : Nat) (d : D) (k : Ρ → Prop) : wO (putAt ρ i d) k = wSl ρ i (kPut i ρ d k) := by
  rw [wSl_eq]
  unfold putAt
  cases h : ρ[i]? with
  | none => simp only [wO_none]
  | some s => cases s <;> simp only [wO_some, wO_none, kPut] <;> rw [wP_of h]
theorem kOut_one (ρ i Q d x) : kOut ρ [i] Q (.fz d, [x]) = wSl ρ i (kPut i ρ x (Q (.fz d))) := by
  show wO (putAt ρ i x) _ = _
  rw [wO_putAt]
theorem kOut_oner (ρ i Q d x) : kOut ρ [i] Q (.fr d, [x]) = wSl ρ i (kPut i ρ x (Q (.fr d))) := by
  show wO (putAt ρ i x) _ = _
  rw [wO_putAt]
theorem wE_call (F : Fn) (fs : AF) : wE (fCall F fs) ρ Q = wA fs ρ fun rs ρ1 => wAs ρ1 rs fun as ix => wO (F as) (kOut ρ1 ix Q) := by
  show wO (Option.bind _ _) _ = _
  rw [wO_bind]
  unfold wA
  congr 1; funext p
  rw [wO_bind]
  show _ = wAs p.2 p.1 _
  rw [← wO_argSlots]
  congr 1; funext as
  rw [wO_bind]
  congr 1; funext r
  rw [wO_bind]
  unfold kOut
  congr 1; funext ρ2
  cases r.1 <;> first | exact wO_some .. | exact wO_none _
end
/-! ### operations on ints and bools -/
section
variable (i j : Int) (Q : RV → Prop)
theorem w_add : wO (addD (.int i) (.int j)) Q = Q (.fz (.int (i + j))) := wO_some ..
theorem w_sub : wO (subD (.int i) (.int j)) Q = Q (.fz (.int (i - j))) := wO_some ..
theorem w_mul : wO (mulD (.int i) (.int j)) Q = (mulOk i j = true ∧ Q (.fz (.int (i * j)))) := by unfold mulD; rw [wO_if]; simp only [rI, wO_some]
theorem w_mulI : wO (mulI (.int i) (.int j)) Q = (mulOk i j = true ∧ Q (.fz (.int (i * j)))) := by unfold mulI; rw [wO_if]; simp only [rI, wO_some]
theorem w_fdiv : wO (fdivD (.int i) (.int j)) Q = (divOk j = true ∧ Q (.fz (.int (i.fdiv j)))) := by unfold fdivD; rw [wO_if]; simp only [rI, wO_some]
theorem w_mod : wO (modD (.int i) (.int j)) Q = (j ≠ 0 ∧ Q (.fz (.int (i.fmod j)))) := by unfold modD; rw [wO_if]; simp only [rI, wO_some]
theorem w_neg : wO (negD (.int i)) Q = Q (.fz (.int (-i))) := wO_some ..
theorem w_lt : wO (ltD (.int i) (.int j)) Q = Q (.fz (.bool (decide (i < j)))) := wO_some ..
theorem w_le : wO (leD (.int i) (.int j)) Q = Q (.fz (.bool (decide (i ≤ j)))) := wO_some ..
theorem w_gt : wO (gtD (.int i) (.int j)) Q = Q (.fz (.bool (decide (j < i)))) := wO_some ..
theorem w_ge : wO (geD (.int i) (.int j)) Q = Q (.fz (.bool (decide (j ≤ i)))) := wO_some ..
theorem w_eq : wO (eqD (.int i) (.int j)) Q = Q (.fz (.bool (decide (i = j)))) := by
  show wO (if (true : Bool) = true then rB (i == j) else none) Q = _
  rw [if_pos rfl, show (i == j) = decide (i = j) from rfl]; exact wO_some ..
theorem w_ne : wO (neD (.int i) (.int j)) Q = Q (.fz (.bool (!decide (i = j)))) := by
  show wO (if (true : Bool) = true then rB (!(i == j)) else none) Q = _
  rw [if_pos rfl, show (i == j) = decide (i = j) from rfl]; exact wO_some ..
theorem w_abs : wO (absD [.int i]) Q = Q (.fz (.int i.natAbs)) := by
  show wO (some (RV.fz (.int (if i < 0 then -i else i)))) Q = _
  rw [wO_some, show (if i < 0 then -i else i) = (i.natAbs : Int) by omega]
theorem w_min2 : wO (min2D [.int i, .int j]) Q = Q (.fz (.int (min i j))) := by
  show wO (some (RV.fz (.int (if j < i then j else i)))) Q = _
  rw [wO_some, show (if j < i then j else i) = min i j by omega]
theorem w_max2 : wO (max2D [.int i, .int j]) Q = Q (.fz (.int (max i j))) := by
  show wO (some (RV.fz (.int (if j > i then j else i)))) Q = _
  rw [wO_some, show (if j > i then j else i) = max i j by omega]
theorem w_int : wO (intD [.int i]) Q = Q (.fz (.int i)) := wO_some ..
theorem w_intb (b : Bool) : wO (intD [.bool b]) Q = Q (.fz (.int (if b = true then 1 else 0))) := wO_some ..
theorem w_pow : wO (powD (.int i) (.int j)) Q = ((decide (0 ≤ j) && decide (j ≤ 1000000) && decide (i.natAbs < 2 ^ 64)) = true ∧ Q (.fz (.int (i ^ j.toNat)))) := by unfold powD; rw [wO_if]; simp only [rI, wO_some]
theorem w_lenL (ds : List D) : wO (lenD [.list ds]) Q = Q (.fz (.int ds.length)) := wO_some ..
theorem w_lenT (ds : List D) : wO (lenD [.tuple ds]) Q = Q (.fz (.int ds.length)) := wO_some ..
theorem w_ixL (ds : List D) : wO (ixD (.list ds) (.int i)) Q = wO (atD ds i) fun d => Q (.fz d) := by
  show wO (Option.bind _ _) _ = _
  rw [wO_bind]; simp only [wO_some]
theorem w_ixT (ds : List D) : wO (ixD (.tuple ds) (.int i)) Q = wO (atD ds i) fun d => Q (.fz d) := by
  show wO (Option.bind _ _) _ = _
  rw [wO_bind]; simp only [wO_some]
theorem w_tupL (ds : List D) : wO (tupleD [.list ds]) Q = kSz ds (Q (.fz (.tuple ds))) := by
  show wO (if _ then _ else _) Q = _
  rw [wO_if, wO_some]; rfl
theorem w_tupT (ds : List D) : wO (tupleD [.tuple ds]) Q = Q (.fz (.tuple ds)) := wO_some ..
theorem w_listL (ds : List D) : wO (listD [.list ds]) Q = kSz ds (Q (.fr (.list ds))) := by
  show wO (if _ then _ else _) Q = _
  rw [wO_if, wO_some]; rfl
theorem w_listT (ds : List D) : wO (listD [.tuple ds]) Q = kSz ds (Q (.fr (.list ds))) := by
  show wO (if _ then _ else _) Q = _
  rw [wO_if, wO_some]; rfl
end
/-- the item of a list told by its map -/
theorem atD_map {α : Type} {e : α → D} {l : List α} {i : Int} {x : α} (h0 : 0 ≤ i) (h : l[i.toNat]? = some x) : atD (l.map e) i = some (e x) := by
  have h1 := (List.getElem?_eq_some_iff.mp h).1
  unfold atD ixN
  rw [List.length_map, if_pos h0, if_pos (by omega)]
  show (l.map e)[i.toNat]? = _
  rw [List.getElem?_map, h]; rfl
/-! ### statements -/
section
variable (ρ : Ρ) (Q : Ctl → Ρ → Prop)
def kS (g : SF) (Q : Ctl → Ρ → Prop) : Ctl → Ρ → Prop
  | .nx, ρ => wS g ρ Q
  | c, ρ => Q c ρ
theorem kS_nx (g Q ρ) : kS g Q .nx ρ = wS g ρ Q := rfl
theorem kS_bk (g Q ρ) : kS g Q .bk ρ = Q .bk ρ := rfl
theorem kS_rt (g Q r ρ) : kS g Q (.rt r) ρ = Q (.rt r) ρ := rfl
theorem wS_nx : wS sNx ρ Q = Q .nx ρ := wO_some ..
theorem wS_bk : wS sBk ρ Q = Q .bk ρ := wO_some ..
theorem wS_seq (f g : SF) : wS (sSeq f g) ρ Q = wS f ρ (kS g Q) := by
  show wO (Option.bind _ _) _ = _
  rw [wO_bind]
  show wO _ _ = wO _ _
  congr 1; funext p
  obtain ⟨c, ρ1⟩ := p
  cases c <;> first | rfl | exact wO_some ..
def kSt (i : Nat) (Q : Ctl → Ρ → Prop) : RV → Ρ → Prop
  | .fz d, ρ => wSl ρ i (kW i ρ (.val d) (Q .nx))
  | .fr d, ρ => wSl ρ i (kW i ρ (.own d) (Q .nx))
  | .bw _, _ => False
theorem kSt_fz (i Q d ρ) : kSt i Q (.fz d) ρ = wSl ρ i (kW i ρ (.val d) (Q .nx)) := rfl
theorem kSt_fr (i Q d ρ) : kSt i Q (.fr d) ρ = wSl ρ i (kW i ρ (.own d) (Q .nx)) := rfl
theorem wS_set (i : Nat) (f : EF) : wS (sSet i f) ρ Q = wE f ρ (kSt i Q) := by
  show wO (Option.bind _ _) _ = _
  rw [wO_bind]
  show wO _ _ = wO _ _
  congr 1; funext p
  obtain ⟨r, ρ1⟩ := p
  cases r with
  | bw i => simp only [RV.slot, Option.bind_none, wO_none, kSt]
  | _ => simp only [RV.slot, Option.bind_some, wO_bind, wO_some, kSt, wO_setSlot]
def kR (Q : Ctl → Ρ → Prop) : RV → Ρ → Prop
  | .fz d, ρ => Q (.rt (.fz d)) ρ
  | .fr d, ρ => Q (.rt (.fr d)) ρ
  | .bw _, _ => False
theorem kR_fz (Q d ρ) : kR Q (.fz d) ρ = Q (.rt (.fz d)) ρ := rfl
theorem kR_fr (Q d ρ) : kR Q (.fr d) ρ = Q (.rt (.fr d)) ρ := rfl
theorem wS_ret (f : EF) : wS (sRet f) ρ Q = wE f ρ (kR Q) := by
  show wO (Option.bind _ _) _ = _
  rw [wO_bind]
  show wO _ _ = wO _ _
  congr 1; funext p
  obtain ⟨r, ρ1⟩ := p
  cases r <;> first | exact wO_some .. | exact wO_none _
theorem wS_retN : wS sRetN ρ Q = Q (.rt (.fz .none)) ρ := wO_some ..
theorem wS_drop (f : EF) : wS (sDrop f) ρ Q = wE f ρ fun _ ρ1 => Q .nx ρ1 := by
  show wO (Option.bind _ _) _ = _
  rw [wO_bind]
  show wO _ _ = wO _ _
  congr 1; funext p
  exact wO_some ..
theorem wS_if (t : TF) (f g : SF) : wS (sIf t f g) ρ Q = wT t ρ fun b ρ1 => (b = true → wS f ρ1 Q) ∧ (b = false → wS g ρ1 Q) := by
  show wO (Option.bind _ _) _ = _
  rw [wO_bind]
  unfold wT
  congr 1; funext p
  rw [wO_cond]; rfl
def kAg (i : Nat) (g : D → D → Option RV) (f : EF) (ρ : Ρ) (Q : Ctl → Ρ → Prop) : Slot → Prop
  | .val d => wE f ρ (kF fun p ρ1 => wR ρ1 p fun e => wO (g d e) fun r => kSt i Q r ρ1)
  | _ => False
theorem kAg_val (i g f ρ Q d) : kAg i g f ρ Q (.val d) = wE f ρ (kF fun p ρ1 => wR ρ1 p fun e => wO (g d e) fun r => kSt i Q r ρ1) := rfl
theorem wS_aug (i : Nat) (g : D → D → Option RV) (f : EF) : wS (sAug i g f) ρ Q = wSl ρ i (kAg i g f ρ Q) := by
  rw [wSl_eq]; unfold wS sAug
  cases h : ρ[i]? with
  | none => simp only [wO_none]
  | some s =>
    cases s with
    | val d =>
      simp only [wO_some, kAg]
      rw [wO_bind, ← wE_F]
      show wO _ _ = wO _ _
      congr 1; funext p
      rw [wO_bind, wO_rs]
      congr 1; funext e
      rw [wO_bind]
      congr 1; funext r
      cases r with
      | bw i => simp only [RV.slot, Option.bind_none, wO_none, kSt]
      | _ => simp only [RV.slot, Option.bind_some, wO_bind, wO_some, kSt, wO_setSlot]
    | _ => simp only [wO_none, wO_some, kAg]
theorem wG_N (i : Nat) (d : D) (K : Ρ → Prop) : wG (gN i) d ρ K = wSl ρ i (kW i ρ (.val d) K) := wO_setSlot ..
theorem wG_T (n : Nat) (g) (ds : List D) (K : Ρ → Prop) : wG (gT n g) (.tuple ds) ρ K = (ds.length = n ∧ wGs g ds ρ K) := wO_if ..
theorem wGs_nil (K : Ρ → Prop) : wGs gsNil [] ρ K = K ρ := wO_some ..
theorem wGs_cons (g : GF) (gs) (d : D) (ds : List D) (K : Ρ → Prop) : wGs (gsCons g gs) (d :: ds) ρ K = wG g d ρ fun ρ1 => wGs gs ds ρ1 K := wO_bind ..
def kIt (K : List D → Ρ → Prop) : RV → Ρ → Prop
  | .fz (.list ds), ρ => K ds ρ
  | .fz (.tuple ds), ρ => K ds ρ
  | _, _ => False
theorem kIt_L (K ds ρ) : kIt K (.fz (.list ds)) ρ = K ds ρ := rfl
theorem kIt_T (K ds ρ) : kIt K (.fz (.tuple ds)) ρ = K ds ρ := rfl
theorem wI_seq (f : EF) (K : List D → Ρ → Prop) : wI (iSeq f) ρ K = wE f ρ (kF (kIt K)) := by
  rw [← wE_F]
  show wO (Option.bind _ _) _ = _
  rw [wO_bind]
  show wO _ _ = wO _ _
  congr 1; funext p
  obtain ⟨r, ρ1⟩ := p
  cases r with
  | fz d => cases d <;> first | exact wO_some .. | exact wO_none _
  | _ => exact wO_none _
def kG1 (K : List D → Ρ → Prop) : List RV → Ρ → Prop
  | [.fz (.int j)], ρ => K (rangeD 0 j.toNat) ρ
  | _, _ => False
theorem kG1_i (K j ρ) : kG1 K [.fz (.int j)] ρ = K (rangeD 0 j.toNat) ρ := rfl
theorem wI_rg1 (fs : AF) (K : List D → Ρ → Prop) : wI (iRg1 fs) ρ K = wA fs ρ (kG1 K) := by
  show wO (Option.bind _ _) _ = _
  rw [wO_bind]
  show wO _ _ = wO _ _
  congr 1; funext p
  obtain ⟨r, ρ1⟩ := p
  dsimp only
  split
  · rw [wO_some]; rfl
  · rename_i h
    rw [wO_none]
    unfold kG1
    split
    · exact (h _ rfl).elim
    · rfl
def kG2 (K : List D → Ρ → Prop) : List RV → Ρ → Prop
  | [.fz (.int i), .fz (.int j)], ρ => K (rangeD i (j - i).toNat) ρ
  | _, _ => False
theorem kG2_i (K i j ρ) : kG2 K [.fz (.int i), .fz (.int j)] ρ = K (rangeD i (j - i).toNat) ρ := rfl
theorem wI_rg2 (fs : AF) (K : List D → Ρ → Prop) : wI (iRg2 fs) ρ K = wA fs ρ (kG2 K) := by
  show wO (Option.bind _ _) _ = _
  rw [wO_bind]
  show wO _ _ = wO _ _
  congr 1; funext p
  obtain ⟨r, ρ1⟩ := p
  dsimp only
  split
  · rw [wO_some]; rfl
  · rename_i h
    rw [wO_none]
    unfold kG2
    split
    · exact (h _ _ rfl).elim
    · rfl
theorem wS_for (it : IF) (g : GF) (b : SF) : wS (sFor it g b) ρ Q = wI it ρ fun ds ρ1 => wL g b ds ρ1 Q := by
  show wO (Option.bind _ _) _ = _
  rw [wO_bind]; rfl
theorem wS_while (n : Nat) (c : TF) (b : SF) : wS (sWhile n c b) ρ Q = wW c b n ρ Q := rfl
def kAz (g : GF) (Q : Ctl → Ρ → Prop) : RV → Ρ → Prop
  | .fz d, ρ => wG g d ρ (Q .nx)
  | _, _ => False
theorem kAz_fz (g Q d ρ) : kAz g Q (.fz d) ρ = wG g d ρ (Q .nx) := rfl
theorem wS_asg (g : GF) (f : EF) : wS (sAsg g f) ρ Q = wE f ρ (kF (kAz g Q)) := by
  rw [← wE_F]
  show wO (Option.bind _ _) _ = _
  rw [wO_bind]
  show wO _ _ = wO _ _
  congr 1; funext p
  obtain ⟨r, ρ1⟩ := p
  cases r with
  | fz d => show wO (Option.bind _ _) _ = _; rw [wO_bind]; simp only [wO_some]; rfl
  | _ => exact wO_none _
/-- behind a pass -/
def kL (J : Ρ → Prop) (Q : Ctl → Ρ → Prop) : Ctl → Ρ → Prop
  | .nx, ρ => J ρ
  | .bk, ρ => Q .nx ρ
  | .rt r, ρ => Q (.rt r) ρ
theorem kL_nx (J Q ρ) : kL J Q .nx ρ = J ρ := rfl
theorem kL_bk (J Q ρ) : kL J Q .bk ρ = Q .nx ρ := rfl
theorem kL_rt (J Q r ρ) : kL J Q (.rt r) ρ = Q (.rt r) ρ := rfl
theorem wL_nil (g : GF) (b : SF) : wL g b [] ρ Q = Q .nx ρ := wO_some ..
theorem wL_cons (g : GF) (b : SF) (d : D) (ds : List D) : wL g b (d :: ds) ρ Q = wG g d ρ fun ρ1 => wS b ρ1 (kL (fun ρ2 => wL g b ds ρ2 Q) Q) := by
  show wO (Option.bind _ _) _ = _
  rw [wO_bind]
  show wO _ _ = wO _ _
  congr 1; funext ρ1
  rw [wO_bind]
  show wO _ _ = wO _ _
  congr 1; funext p
  obtain ⟨c, ρ2⟩ := p
  cases c <;> first | rfl | exact wO_some ..
end
theorem wL_inv {α : Type} {g : GF} {b : SF} {Q : Ctl → Ρ → Prop} (e : α → D) (I : Nat → Ρ → Prop) : ∀ (l : List α) {ρ : Ρ} (k : Nat), I k ρ → (∀ i x ρ, l[i]? = some x → I (k + i) ρ → wG g (e x) ρ fun ρ1 => wS b ρ1 (kL (I (k + (i + 1))) Q)) →
    (∀ ρ, I (k + l.length) ρ → Q .nx ρ) → wL g b (l.map e) ρ Q
  | [], ρ, k, h0, _, h => by rw [List.map_nil, wL_nil]; exact h _ h0
  | x :: l, ρ, k, h0, hs, h => by
    rw [List.map_cons, wL_cons]
    refine wO.mono (hs 0 x ρ rfl h0) fun ρ1 h1 => wS.mono h1 fun c ρ2 h2 => ?_
    cases c with
    | nx => exact wL_inv e I l (k + 1) h2 (fun i y ρ hi hI => by rw [show k + 1 + (i + 1) = k + (i + 1 + 1) by omega]; exact hs (i + 1) y ρ hi (by rw [show k + (i + 1) = k + 1 + i by omega]; exact hI)) (fun ρ hI => h ρ (by rw [List.length_cons, show k + (l.length + 1) = k + 1 + l.length by omega]; exact hI))
    | bk => exact h2
    | rt r => exact h2
/-- a for over a list, by its invariant -/
theorem wL_list {α : Type} {g : GF} {b : SF} {Q : Ctl → Ρ → Prop} {ρ : Ρ} (e : α → D) (l : List α) (I : Nat → Ρ → Prop) (h0 : I 0 ρ) (hs : ∀ i x ρ, l[i]? = some x → I i ρ → wG g (e x) ρ fun ρ1 => wS b ρ1 (kL (I (i + 1)) Q))
    (h : ∀ ρ, I l.length ρ → Q .nx ρ) : wL g b (l.map e) ρ Q :=
  wL_inv e I l 0 h0 (fun i x ρ hi hI => by rw [Nat.zero_add] at *; exact hs i x ρ hi hI) (fun ρ hI => h ρ (by rw [Nat.zero_add] at hI; exact hI))
/-- a for over a range, by its invariant -/
theorem wL_range {g : GF} {b : SF} {Q : Ctl → Ρ → Prop} {ρ : Ρ} {a : Int} {n : Nat} (I : Nat → Ρ → Prop) (h0 : I 0 ρ) (hs : ∀ i ρ, i < n → I i ρ → wG g (.int (a + (i : Int))) ρ fun ρ1 => wS b ρ1 (kL (I (i + 1)) Q))
    (h : ∀ ρ, I n ρ → Q .nx ρ) : wL g b (rangeD a n) ρ Q :=
  wL_list (fun (k : Nat) => PyData.int (a + (k : Int))) (List.range n) I h0 (fun i x ρ hi hI => by
    obtain ⟨h1, h2⟩ := List.getElem?_eq_some_iff.mp hi
    rw [List.getElem_range] at h2
    subst h2
    rw [List.length_range] at h1
    exact hs i ρ h1 hI) (fun ρ hI => h ρ (by rw [List.length_range] at hI; exact hI))
/-! ### comprehensions -/
def pl (ρ : Ρ) (vs : List Nat) : Prop := (vs.all fun v => (ρ.getD v .no).plain) = true
theorem wE_comp (ρ : Ρ) (Q : RV → Ρ → Prop) (vs it g t e) : wE (fComp vs it g t e) ρ Q = wI it ρ fun ds ρ1 => pl ρ1 vs ∧ wC g t e vs ds (wipeR ρ1 vs) fun out ρ2 => kSz out (Q (.fr (.list out)) (unw ρ1 ρ2 vs)) := by
  show wO (Option.bind _ _) _ = _
  rw [wO_bind]
  show wO _ _ = wO _ _
  congr 1; funext p
  rw [wO_if]
  show (_ ∧ wO (Option.bind _ _) _) = _
  rw [wO_bind]
  show _ = (_ ∧ wO _ _)
  congr 2; funext q
  rw [wO_if, wO_some]; rfl
theorem pl_1 (ρ : Ρ) (v : Nat) : pl ρ [v] = ((ρ.getD v .no).plain = true) := by simp [pl]
theorem pl_2 (ρ : Ρ) (v u : Nat) : pl ρ [v, u] = ((ρ.getD v .no).plain = true ∧ (ρ.getD u .no).plain = true) := by simp [pl]
theorem wipe_1 (ρ : Ρ) (v : Nat) : wipeR ρ [v] = ρ.set v .no := rfl
theorem wipe_2 (ρ : Ρ) (v u : Nat) : wipeR ρ [v, u] = (ρ.set u .no).set v .no := rfl
theorem unw_1 (ρ0 ρ : Ρ) (v : Nat) : unw ρ0 ρ [v] = ρ.set v (ρ0.getD v .no) := rfl
theorem unw_2 (ρ0 ρ : Ρ) (v u : Nat) : unw ρ0 ρ [v, u] = (ρ.set u (ρ0.getD u .no)).set v (ρ0.getD v .no) := rfl
theorem wC_nil (ρ : Ρ) (Q : List D → Ρ → Prop) (g t e vs) : wC g t e vs [] ρ Q = Q [] ρ := wO_some ..
theorem wC_cons (ρ : Ρ) (Q : List D → Ρ → Prop) (g t e vs d ds) : wC g t e vs (d :: ds) ρ Q = wG g d ρ fun ρ1 => wT t ρ1 fun b ρ2 => (b = true → wE e ρ2 (kF fun r ρ3 => ∃ y, r = .fz y ∧ wC g t e vs ds (wipeR ρ3 vs) fun ys ρ4 => Q (y :: ys) ρ4)) ∧
    (b = false → wC g t e vs ds (wipeR ρ2 vs) Q) := by
  show wO (Option.bind _ _) _ = _
  rw [wO_bind]
  show wO _ _ = wO _ _
  congr 1; funext ρ1
  rw [wO_bind]
  show wO _ _ = wO _ _
  congr 1; funext p
  rw [wO_cond]
  congr 1
  refine propext ⟨fun h z => ?_, fun h z => ?_⟩
  · have h := h z
    rw [wO_bind] at h
    rw [← wE_F]
    refine wO.mono h fun q h => ?_
    obtain ⟨r, ρ3⟩ := q
    cases r with
    | fz y => exact ⟨y, rfl, by dsimp only at h; rw [wO_bind] at h; simp only [wO_some] at h; exact h⟩
    | _ => exact absurd h (by rw [wO_none]; exact id)
  · have h := h z
    rw [← wE_F] at h
    rw [wO_bind]
    refine wO.mono h fun q h => ?_
    obtain ⟨r, ρ3⟩ := q
    obtain ⟨y, e, h⟩ := h
    dsimp only at e
    subst e
    dsimp only
    rw [wO_bind]; simp only [wO_some]; exact h
/-- pass by pass: what the items make (none: left out), the state told by the passes done -/
theorem wC_inv {α : Type} {g : GF} {t : TF} {e : EF} {vs : List Nat} (m : α → D) (I : Nat → List D → Ρ → Prop) : ∀ (l : List α) {ρ : Ρ} {Q : List D → Ρ → Prop} (k : Nat) (acc : List D), I k acc ρ →
    (∀ i x ρ acc, l[i]? = some x → I (k + i) acc ρ → wG g (m x) ρ fun ρ1 => wT t ρ1 fun b ρ2 => (b = true → wE e ρ2 (kF fun r ρ3 => ∃ y, r = .fz y ∧ I (k + (i + 1)) (acc ++ [y]) (wipeR ρ3 vs))) ∧ (b = false → I (k + (i + 1)) acc (wipeR ρ2 vs))) →
    (∀ out ρ, I (k + l.length) (acc ++ out) ρ → Q out ρ) → wC g t e vs (l.map m) ρ Q
  | [], ρ, Q, k, acc, h0, _, h => by rw [List.map_nil, wC_nil]; exact h [] _ (by rw [List.append_nil]; exact h0)
  | x :: l, ρ, Q, k, acc, h0, hs, h => by
    rw [List.map_cons, wC_cons]
    have hs' : ∀ i y ρ acc, l[i]? = some y → I (k + 1 + i) acc ρ → wG g (m y) ρ fun ρ1 => wT t ρ1 fun b ρ2 => (b = true → wE e ρ2 (kF fun r ρ3 => ∃ y, r = .fz y ∧ I (k + 1 + (i + 1)) (acc ++ [y]) (wipeR ρ3 vs))) ∧ (b = false → I (k + 1 + (i + 1)) acc (wipeR ρ2 vs)) :=
      fun i y ρ acc hi hI => by rw [show k + 1 + (i + 1) = k + (i + 1 + 1) by omega]; exact hs (i + 1) y ρ acc hi (by rw [show k + (i + 1) = k + 1 + i by omega]; exact hI)
    have hl : k + (x :: l).length = k + 1 + l.length := by rw [List.length_cons]; omega
    refine wO.mono (hs 0 x ρ acc rfl h0) fun ρ1 h1 => wO.mono h1 fun p h2 => ⟨fun z => ?_, fun z => ?_⟩
    · refine wE.mono (h2.1 z) fun r ρ3 h3 => ?_
      have : ∀ r, (∃ y, r = RV.fz y ∧ I (k + (0 + 1)) (acc ++ [y]) (wipeR ρ3 vs)) → (∃ y, r = RV.fz y ∧ wC g t e vs (l.map m) (wipeR ρ3 vs) fun ys ρ4 => Q (y :: ys) ρ4) := fun r ⟨y, e1, h4⟩ =>
        ⟨y, e1, wC_inv m I l (k + 1) (acc ++ [y]) h4 hs' fun out ρ4 h5 => h _ _ (by rw [List.append_assoc] at h5; rw [hl]; exact h5)⟩
      cases r with
      | fr d => cases d <;> exact this _ h3
      | _ => exact this _ h3
    · exact wC_inv m I l (k + 1) acc (h2.2 z) hs' fun out ρ4 h5 => h _ _ (by rw [hl]; exact h5)
/-- from nothing -/
theorem wC_inv0 {α : Type} {g : GF} {t : TF} {e : EF} {vs : List Nat} (m : α → D) (I : Nat → List D → Ρ → Prop) (l : List α) {ρ : Ρ} {Q : List D → Ρ → Prop} (h0 : I 0 [] ρ)
    (hs : ∀ i x ρ acc, l[i]? = some x → I i acc ρ → wG g (m x) ρ fun ρ1 => wT t ρ1 fun b ρ2 => (b = true → wE e ρ2 (kF fun r ρ3 => ∃ y, r = .fz y ∧ I (i + 1) (acc ++ [y]) (wipeR ρ3 vs))) ∧ (b = false → I (i + 1) acc (wipeR ρ2 vs)))
    (h : ∀ out ρ, I l.length out ρ → Q out ρ) : wC g t e vs (l.map m) ρ Q :=
  wC_inv m I l 0 [] h0 (fun i x ρ acc hi hI => by rw [Nat.zero_add] at *; exact hs i x ρ acc hi hI) fun out ρ hI => h out ρ (by rw [Nat.zero_add] at hI; exact hI)
/-- no state: the kept ones' values -/
theorem wC_map {α : Type} {g : GF} {t : TF} {e : EF} {vs : List Nat} (m : α → D) (p : α → Bool) (f : α → D) (l : List α) {ρ : Ρ} {Q : List D → Ρ → Prop}
    (hs : ∀ x, x ∈ l → wG g (m x) ρ fun ρ1 => wT t ρ1 fun b ρ2 => (b = true → p x = true ∧ wE e ρ2 (kF fun r ρ3 => r = .fz (f x) ∧ wipeR ρ3 vs = ρ)) ∧ (b = false → p x = false ∧ wipeR ρ2 vs = ρ))
    (h : Q ((l.filter p).map f) ρ) : wC g t e vs (l.map m) ρ Q := by
  induction l generalizing Q with
  | nil => rw [List.map_nil, wC_nil]; exact h
  | cons x l ih =>
    rw [List.map_cons, wC_cons]
    have ih := fun {Q} => ih (Q := Q) (fun y hy => hs y (List.mem_cons_of_mem _ hy))
    refine wO.mono (hs x (List.mem_cons_self ..)) fun ρ1 h1 => wO.mono h1 fun q h2 => ⟨fun z => ?_, fun z => ?_⟩
    · obtain ⟨hp, h2⟩ := h2.1 z
      rw [List.filter_cons_of_pos hp] at h
      refine wE.mono h2 fun r ρ3 h3 => ?_
      have : ∀ r, (r = RV.fz (f x) ∧ wipeR ρ3 vs = ρ) → (∃ y, r = RV.fz y ∧ wC g t e vs (l.map m) (wipeR ρ3 vs) fun ys ρ4 => Q (y :: ys) ρ4) := fun r ⟨e1, h4⟩ => ⟨f x, e1, by rw [h4]; exact ih h⟩
      cases r with
      | fr d => cases d <;> exact this _ h3
      | _ => exact this _ h3
    · obtain ⟨hp, h2⟩ := h2.2 z
      rw [List.filter_cons_of_neg (by rw [hp]; decide)] at h
      rw [h2]; exact ih h
theorem wC_each {α : Type} {g : GF} {e : EF} {vs : List Nat} (m : α → D) (f : α → D) (l : List α) {ρ : Ρ} {Q : List D → Ρ → Prop}
    (hs : ∀ x, x ∈ l → wG g (m x) ρ fun ρ1 => wE e ρ1 (kF fun r ρ3 => r = .fz (f x) ∧ wipeR ρ3 vs = ρ)) (h : Q (l.map f) ρ) : wC g fYes e vs (l.map m) ρ Q := by
  refine wC_map m (fun _ => true) f l (fun x hx => wO.mono (hs x hx) fun ρ1 h1 => ?_) (by rw [List.filter_eq_self.mpr fun _ _ => rfl]; exact h)
  rw [wT_yes]
  exact ⟨fun _ => ⟨rfl, h1⟩, fun z => nomatch z⟩
/-! ### lists changed -/
def wM (m : List D → List D → Option (D × List D)) (ds as : List D) (k : D → List D → Prop) : Prop := wO (m ds as) fun p => k p.1 p.2
theorem wM_cg {m : List D → List D → Option (D × List D)} {ds ds' as as' : List D} {k : D → List D → Prop} (h : ds = ds') (h2 : as = as') : wM m ds as k = wM m ds' as' k := by rw [h, h2]
theorem wM_append (ds d k) : wM mAppend ds [d] k = k .none (ds ++ [d]) := wO_some ..
theorem wM_pop (ds k) : wM mPop ds [] k = wO ds[ds.length - 1]? fun d => k d ds.dropLast := by
  show wO (Option.bind _ _) _ = _
  rw [wO_bind]; simp only [wO_some]
theorem wM_rev (ds k) : wM mReverse ds [] k = k .none ds.reverse := wO_some ..
theorem wM_ins (ds i d k) : wM mInsert ds [.int i, d] k = ((decide (0 ≤ i) && decide (i < 2 ^ 63)) = true ∧ k .none (ds.take i.toNat ++ [d] ++ ds.drop i.toNat)) := by
  show wO (if _ then _ else _) _ = _
  rw [wO_if, wO_some]
theorem wM_popAt (ds i k) : wM mPopAt ds [.int i] k = ((decide (-(2 ^ 63) ≤ i) && decide (i < 2 ^ 63)) = true ∧ wO (seqIndex? i ds.length) fun j => wO ds[j]? fun d => k d (ds.eraseIdx j)) := by
  show wO (if _ then _ else _) _ = _
  rw [wO_if]
  simp only [wO_bind, wO_some]
def kMt (k : List D → Prop) : Slot → Prop
  | .own (.list ds) => k ds
  | .io (.list ds) => k ds
  | _ => False
theorem kMt_own (k ds) : kMt k (.own (.list ds)) = k ds := rfl
theorem kMt_io (k ds) : kMt k (.io (.list ds)) = k ds := rfl
theorem wO_mutAt (ρ : Ρ) (i : Nat) (k : List D → Prop) : wO (mutAt ρ i) k = wSl ρ i (kMt k) := by
  rw [wSl_eq]
  unfold mutAt
  cases ρ[i]? with
  | none => simp only [wO_none]
  | some s =>
    cases s with
    | own d => cases d <;> simp only [wO_some, wO_none, kMt]
    | io d => cases d <;> simp only [wO_some, wO_none, kMt]
    | _ => simp only [wO_some, wO_none, kMt]
theorem wE_mut (ρ : Ρ) (Q : RV → Ρ → Prop) (i m fs) : wE (fMut i m fs) ρ Q = wSl ρ i (kMt fun _ => wA fs ρ fun rs ρ1 => wZ rs fun as => wSl ρ1 i (kMt fun ds => wM m ds as fun d ds' => kSz ds' (wSl ρ1 i (kPut i ρ1 (.list ds') (Q (.fz d)))))) := by
  show wO (Option.bind _ _) _ = _
  rw [wO_bind, wO_mutAt]
  refine congrArg _ (congrArg _ ?_)
  funext _
  rw [wO_bind]
  show wO _ _ = wO _ _
  congr 1; funext p
  rw [wO_bind, wO_fzAll]
  congr 1; funext as
  rw [wO_bind, wO_mutAt]
  refine congrArg _ (congrArg _ ?_)
  funext ds
  rw [wO_bind]
  show wO _ _ = wO _ _
  congr 1; funext r
  rw [wO_if, wO_bind, wO_putAt]
  simp only [wO_some]
  rfl
theorem wE_mut0 (ρ : Ρ) (Q : RV → Ρ → Prop) (i m) : wE (fMut0 i m) ρ Q = wSl ρ i (kMt fun ds => wM m ds [] fun d ds' => kSz ds' (wSl ρ i (kPut i ρ (.list ds') (Q (.fz d))))) := by
  show wO (Option.bind _ _) _ = _
  rw [wO_bind, wO_mutAt]
  refine congrArg _ (congrArg _ ?_)
  funext ds
  rw [wO_bind]
  show wO _ _ = wO _ _
  congr 1; funext r
  rw [wO_if, wO_bind, wO_putAt]
  simp only [wO_some]
  rfl
def kSi (j : Nat) (d : D) (Q : Ctl → Ρ → Prop) : RV → Ρ → Prop
  | .fz (.int k), ρ => wSl ρ j (kMt fun ds => wO (L2.ixN ds.length k) fun n => kSz ds (wSl ρ j (kPut j ρ (.list (ds.set n d)) (Q .nx))))
  | _, _ => False
theorem kSi_i (j d Q k ρ) : kSi j d Q (.fz (.int k)) ρ = wSl ρ j (kMt fun ds => wO (L2.ixN ds.length k) fun n => kSz ds (wSl ρ j (kPut j ρ (.list (ds.set n d)) (Q .nx)))) := rfl
def kSo (j : Nat) (fi : EF) (Q : Ctl → Ρ → Prop) : RV → Ρ → Prop
  | .fz d, ρ => wSl ρ j (kMt fun _ => wE fi ρ (kF (kSi j d Q)))
  | _, _ => False
theorem kSo_fz (j fi Q d ρ) : kSo j fi Q (.fz d) ρ = wSl ρ j (kMt fun _ => wE fi ρ (kF (kSi j d Q))) := rfl
theorem wS_store (ρ : Ρ) (Q : Ctl → Ρ → Prop) (j fi fe) : wS (sStore j fi fe) ρ Q = wE fe ρ (kF (kSo j fi Q)) := by
  rw [← wE_F]
  show wO (Option.bind _ _) _ = _
  rw [wO_bind]
  show wO _ _ = wO _ _
  congr 1; funext p
  obtain ⟨r, ρ1⟩ := p
  cases r with
  | fz d =>
    rw [kSo_fz]
    show wO (Option.bind _ _) _ = _
    rw [wO_bind, wO_mutAt]
    refine congrArg _ (congrArg _ ?_)
    funext _
    rw [wO_bind, ← wE_F]
    show wO _ _ = wO _ _
    congr 1; funext q
    obtain ⟨r, ρ2⟩ := q
    cases r with
    | fz x =>
      cases x with
      | int k =>
        rw [kSi_i]
        show wO (Option.bind _ _) _ = _
        rw [wO_bind, wO_mutAt]
        refine congrArg _ (congrArg _ ?_)
        funext ds
        rw [wO_bind]
        congr 1; funext n
        rw [wO_if, wO_bind, wO_putAt]
        simp only [wO_some]
        rfl
      | _ => exact wO_none _
    | _ => exact wO_none _
  | _ => exact wO_none _
/-! ### functions -/
def wU : List Slot → Ρ → (List D → Prop) → Prop
  | [], _, k => k []
  | .io _ :: as, .io d :: ρ, k => wU as ρ fun r => k (d :: r)
  | .io _ :: _, _, _ => False
  | .no :: as, _ :: ρ, k => wU as ρ k
  | .val _ :: as, _ :: ρ, k => wU as ρ k
  | .own _ :: as, _ :: ρ, k => wU as ρ k
  | _ :: _, [], _ => False
theorem wU_nil (ρ k) : wU [] ρ k = k [] := rfl
theorem wU_io (x as d ρ k) : wU (.io x :: as) (.io d :: ρ) k = wU as ρ fun r => k (d :: r) := rfl
theorem wU_val (x as s ρ k) : wU (.val x :: as) (s :: ρ) k = wU as ρ k := rfl
theorem wO_outs : ∀ (as : List Slot) (ρ : Ρ) (k : List D → Prop), wO (outs as ρ) k = wU as ρ k
  | [], _, k => wO_some ..
  | .io _ :: as, .io d :: ρ, k => by
    show wO (Option.bind _ _) _ = wU as ρ _
    rw [wO_bind, ← wO_outs as ρ]
    simp only [wO_some]
  | .io _ :: _, [], _ => wO_none _
  | .io _ :: _, .no :: _, _ => wO_none _
  | .io _ :: _, .val _ :: _, _ => wO_none _
  | .io _ :: _, .own _ :: _, _ => wO_none _
  | .no :: as, _ :: ρ, k => wO_outs as ρ k
  | .val _ :: as, _ :: ρ, k => wO_outs as ρ k
  | .own _ :: as, _ :: ρ, k => wO_outs as ρ k
  | .no :: _, [], _ => wO_none _
  | .val _ :: _, [], _ => wO_none _
  | .own _ :: _, [], _ => wO_none _
def kFn (as : List Slot) (Q : RV × List D → Prop) : Ctl → Ρ → Prop
  | .rt (.fz d), ρ => wU as ρ fun o => Q (.fz d, o)
  | .rt (.fr d), ρ => wU as ρ fun o => Q (.fr d, o)
  | .nx, ρ => wU as ρ fun o => Q (.fz .none, o)
  | _, _ => False
theorem kFn_fz (as Q d ρ) : kFn as Q (.rt (.fz d)) ρ = wU as ρ fun o => Q (.fz d, o) := rfl
theorem kFn_fr (as Q d ρ) : kFn as Q (.rt (.fr d)) ρ = wU as ρ fun o => Q (.fr d, o) := rfl
theorem kFn_nx (as Q ρ) : kFn as Q .nx ρ = wU as ρ fun o => Q (.fz .none, o) := rfl
/-- a function's call, by its body -/
theorem wO_fn {np ns : Nat} {b : SF} {as : List Slot} {Q : RV × List D → Prop} (h : as.length = np) (w : wS b (as ++ List.replicate (ns - np) .no) (kFn as Q)) : wO (fnOf np ns b as) Q := by
  unfold fnOf
  rw [if_pos h, wO_bind]
  refine wO.mono w fun p hp => ?_
  obtain ⟨c, ρ⟩ := p
  rw [wO_bind, wO_outs]
  have up : ∀ (d : RV), wU as ρ (fun o => Q (d, o)) → wU as ρ fun o => wO (some (d, o)) Q := fun d h => by simp only [wO_some]; exact h
  cases c with
  | nx => exact up _ hp
  | bk => exact hp.elim
  | rt r =>
    cases r with
    | fz d => exact up _ hp
    | fr d => exact up _ hp
    | bw i => exact hp.elim
/-- told as an equation -/
theorem eq_of_wO {α : Type} {o : Option α} {a : α} (h : wO o fun b => b = a) : o = some a := let ⟨_, e, h⟩ := h; h ▸ e
end Ev


set_option Elab.async false
set_option linter.all false
/-! what the laws' own small defs do -/
namespace Ev
open PySem PySem.Spec L2
def B_drawsA : SF := (sSeq (sSet 2 (fBin addD (fComp [8] (iSeq (fV 0)) (gN 8) fYes (fArgs intD (aCons (fB 8) aNil))) (fBin mulD (fLst (aCons (fC (.int 0)) aNil)) (fArgs intD (aCons (fBin eqD (fArgs lenD (aCons (fB 0) aNil)) (fC (.int 0))) aNil)))))
  (sSeq (sSet 3 (fArgs listD (aCons (fB 2) aNil)))
  (sSeq (sSet 4 (fLst aNil))
  (sSeq (sFor (iRg1 (aCons (fV 1) aNil)) (gN 5)
  (sSeq (sSet 6 (fBin modD (fB 5) (fArgs lenD (aCons (fB 2) aNil))))
  (sIf (fAnd (fTst (fBin geD (fBin ixD (fB 2) (fB 6)) (fBin powD (fC (.int 10)) (fC (.int 18))))) (fTst (fBin gtD (fBin ixD (fB 3) (fB 6)) (fC (.int 0)))))
  (sSeq (sDrop (fMut 4 mAppend (aCons (fBin modD (fArgs intD (aCons (fBin ixD (fB 3) (fB 6)) aNil)) (fC (.int 1000))) aNil)))
  (sStore 3 (fV 6) (fBin fdivD (fBin ixD (fB 3) (fB 6)) (fC (.int 1000)))))
  (sSeq (sSet 7 (fBin modD (fArgs intD (aCons (fBin addD (fBin addD (fBin mulD (fBin ixD (fB 2) (fB 6)) (fC (.int 48271))) (fBin mulD (fB 5) (fC (.int 69621)))) (fC (.int 11))) aNil)) (fC (.int 2147483647))))
  (sDrop (fMut 4 mAppend (aCons (fBin modD (fArgs intD (aCons (fBin addD (fBin addD (fBin mulD (fB 7) (fB 7)) (fBin mulD (fC (.int 3)) (fB 7))) (fB 5)) aNil)) (fC (.int 1000003))) aNil)))))))
  (sSeq (sDrop (fMut0 4 mReverse))
  (sRet (fM 4)))))))
def F_drawsA : Fn := fnOf 2 9 B_drawsA
def B_take : SF := (sSeq (sIf (fTst (fBin eqD (fArgs lenD (aCons (fB 0) aNil)) (fC (.int 0))))
  (sRet (fC (.int 0)))
  sNx)
  (sRet (fBin modD (fArgs intD (aCons (fMut0 0 mPop) aNil)) (fB 1))))
def F_take : Fn := fnOf 2 2 B_take
def B_cellA : SF := (sSeq (sIf (fTst (fBin eqD (fArgs lenD (aCons (fB 0) aNil)) (fC (.int 0))))
  (sRet (fC (.int 0)))
  sNx)
  (sSeq (sSet 2 (fArgs intD (aCons (fBin ixD (fB 0) (fBin modD (fArgs intD (aCons (fB 1) aNil)) (fArgs lenD (aCons (fB 0) aNil)))) aNil)))
  (sRet (fBin mulD (fBin modD (fArgs absD (aCons (fB 2) aNil)) (fBin powD (fC (.int 10)) (fC (.int 28)))) (fBin ixD (fLst (aCons (fC (.int 1)) (aCons (fUn negD (fC (.int 1))) aNil))) (fArgs intD (aCons (fBin ltD (fB 2) (fC (.int 0))) aNil)))))))
def F_cellA : Fn := fnOf 2 3 B_cellA
def B_sameA (F_sameA : Fn) : SF := (sSeq (sIf (fTst (fBin isN (fB 1) (fC .none)))
  (sRet (fBin isN (fB 0) (fC .none)))
  sNx)
  (sSeq (sIf (fTst (fUn (isiD "bool") (fB 1)))
  (sRet (fBool (fAnd (fTst (fUn (isiD "bool") (fB 0))) (fTst (fBin eqD (fB 0) (fB 1))))))
  sNx)
  (sSeq (sIf (fTst (fUn (isiD "int") (fB 1)))
  (sRet (fBool (fAnd (fTst (fUn (isiD "int") (fB 0))) (fAnd (fTst (fBool (fNot (fTst (fUn (isiD "bool") (fB 0)))))) (fTst (fBin eqD (fB 0) (fB 1)))))))
  sNx)
  (sSeq (sIf (fTst (fUn (isiD "str") (fB 1)))
  (sRet (fBool (fAnd (fTst (fUn (isiD "str") (fB 0))) (fTst (fBin eqD (fB 0) (fB 1))))))
  sNx)
  (sSeq (sIf (fOr (fNot (fTst (fUn (isiD "tuple") (fB 0)))) (fTst (fBin neD (fArgs lenD (aCons (fB 0) aNil)) (fArgs lenD (aCons (fB 1) aNil)))))
  (sRet (fC (.bool false)))
  sNx)
  (sSeq (sFor (iRg1 (aCons (fArgs lenD (aCons (fB 1) aNil)) aNil)) (gN 2)
  (sIf (fNot (fTst (fCall F_sameA (aCons (fBin ixD (fB 0) (fB 2)) (aCons (fBin ixD (fB 1) (fB 2)) aNil)))))
  (sRet (fC (.bool false)))
  sNx))
  (sRet (fC (.bool true)))))))))
def R_sameA : Nat → Fn
  | 0 => fun _ => none
  | n + 1 => fnOf 2 3 (B_sameA (R_sameA n))
def F_sameA : Fn := R_sameA 8
def B_drawsB : SF := (sSeq (sSet 2 (fComp [8] (iSeq (fV 0)) (gN 8) fYes (fArgs intD (aCons (fB 8) aNil))))
  (sSeq (sIf (fTst (fBin eqD (fArgs lenD (aCons (fB 2) aNil)) (fC (.int 0))))
  (sDrop (fMut 2 mAppend (aCons (fC (.int 0)) aNil)))
  sNx)
  (sSeq (sSet 3 (fArgs listD (aCons (fB 2) aNil)))
  (sSeq (sSet 4 (fLst aNil))
  (sSeq (sFor (iRg1 (aCons (fV 1) aNil)) (gN 5)
  (sSeq (sSet 6 (fBin modD (fB 5) (fArgs lenD (aCons (fB 2) aNil))))
  (sIf (fAnd (fTst (fBin geD (fBin ixD (fB 2) (fB 6)) (fBin powD (fC (.int 10)) (fC (.int 18))))) (fTst (fBin gtD (fBin ixD (fB 3) (fB 6)) (fC (.int 0)))))
  (sSeq (sDrop (fMut 4 mAppend (aCons (fBin modD (fArgs intD (aCons (fBin ixD (fB 3) (fB 6)) aNil)) (fC (.int 1000))) aNil)))
  (sStore 3 (fV 6) (fBin fdivD (fBin ixD (fB 3) (fB 6)) (fC (.int 1000)))))
  (sSeq (sSet 7 (fBin modD (fArgs intD (aCons (fBin addD (fBin addD (fBin mulD (fBin ixD (fB 2) (fB 6)) (fC (.int 48271))) (fBin mulD (fB 5) (fC (.int 69621)))) (fC (.int 11))) aNil)) (fC (.int 2147483647))))
  (sDrop (fMut 4 mAppend (aCons (fBin modD (fArgs intD (aCons (fBin addD (fBin addD (fBin mulD (fB 7) (fB 7)) (fBin mulD (fC (.int 3)) (fB 7))) (fB 5)) aNil)) (fC (.int 1000003))) aNil)))))))
  (sSeq (sDrop (fMut0 4 mReverse))
  (sRet (fM 4))))))))
def F_drawsB : Fn := fnOf 2 9 B_drawsB
def B_cellB : SF := (sSeq (sIf (fTst (fBin eqD (fArgs lenD (aCons (fB 0) aNil)) (fC (.int 0))))
  (sRet (fC (.int 0)))
  sNx)
  (sSeq (sSet 2 (fArgs intD (aCons (fBin ixD (fB 0) (fCall F_take (aCons (fB 1) (aCons (fArgs lenD (aCons (fB 0) aNil)) aNil)))) aNil)))
  (sRet (fBin mulD (fBin modD (fArgs absD (aCons (fB 2) aNil)) (fBin powD (fC (.int 10)) (fC (.int 60)))) (fBin ixD (fLst (aCons (fC (.int 1)) (aCons (fUn negD (fC (.int 1))) aNil))) (fArgs intD (aCons (fBin ltD (fB 2) (fC (.int 0))) aNil)))))))
def F_cellB : Fn := fnOf 2 3 B_cellB
def B_sameB (F_sameB : Fn) : SF := (sSeq (sIf (fTst (fUn (isiD "bool") (fB 1)))
  (sRet (fBool (fAnd (fTst (fUn (isiD "bool") (fB 0))) (fTst (fBin eqD (fB 0) (fB 1))))))
  sNx)
  (sSeq (sIf (fTst (fUn (isiD "int") (fB 1)))
  (sRet (fBool (fAnd (fTst (fUn (isiD "int") (fB 0))) (fAnd (fTst (fBool (fNot (fTst (fUn (isiD "bool") (fB 0)))))) (fTst (fBin eqD (fB 0) (fB 1)))))))
  sNx)
  (sSeq (sIf (fTst (fUn (isiD "str") (fB 1)))
  (sRet (fBool (fAnd (fTst (fUn (isiD "str") (fB 0))) (fTst (fBin eqD (fB 0) (fB 1))))))
  sNx)
  (sSeq (sIf (fTst (fBin isN (fB 1) (fC .none)))
  (sRet (fBin isN (fB 0) (fC .none)))
  sNx)
  (sSeq (sIf (fOr (fNot (fTst (fUn (isiD "tuple") (fB 0)))) (fTst (fBin neD (fArgs lenD (aCons (fB 0) aNil)) (fArgs lenD (aCons (fB 1) aNil)))))
  (sRet (fC (.bool false)))
  sNx)
  (sSeq (sFor (iRg1 (aCons (fArgs lenD (aCons (fB 1) aNil)) aNil)) (gN 2)
  (sIf (fNot (fTst (fCall F_sameB (aCons (fBin ixD (fB 0) (fB 2)) (aCons (fBin ixD (fB 1) (fB 2)) aNil)))))
  (sRet (fC (.bool false)))
  sNx))
  (sRet (fC (.bool true)))))))))
def R_sameB : Nat → Fn
  | 0 => fun _ => none
  | n + 1 => fnOf 2 3 (B_sameB (R_sameB n))
def F_sameB : Fn := R_sameB 8

theorem w_isi_bool_none  (Q : RV → Prop) : wO (isiD "bool" .none) Q = Q (.fz (.bool false)) := wO_some ..
theorem w_isi_bool_bool (b : Bool) (Q : RV → Prop) : wO (isiD "bool" (.bool b)) Q = Q (.fz (.bool true)) := wO_some ..
theorem w_isi_bool_int (i : Int) (Q : RV → Prop) : wO (isiD "bool" (.int i)) Q = Q (.fz (.bool false)) := wO_some ..
theorem w_isi_bool_str (x : Str) (Q : RV → Prop) : wO (isiD "bool" (.str x)) Q = Q (.fz (.bool false)) := wO_some ..
theorem w_isi_bool_tuple (ds : List D) (Q : RV → Prop) : wO (isiD "bool" (.tuple ds)) Q = Q (.fz (.bool false)) := wO_some ..
theorem w_isi_bool_list (ds : List D) (Q : RV → Prop) : wO (isiD "bool" (.list ds)) Q = Q (.fz (.bool false)) := wO_some ..
theorem w_isi_int_none  (Q : RV → Prop) : wO (isiD "int" .none) Q = Q (.fz (.bool false)) := wO_some ..
theorem w_isi_int_bool (b : Bool) (Q : RV → Prop) : wO (isiD "int" (.bool b)) Q = Q (.fz (.bool true)) := wO_some ..
theorem w_isi_int_int (i : Int) (Q : RV → Prop) : wO (isiD "int" (.int i)) Q = Q (.fz (.bool true)) := wO_some ..
theorem w_isi_int_str (x : Str) (Q : RV → Prop) : wO (isiD "int" (.str x)) Q = Q (.fz (.bool false)) := wO_some ..
theorem w_isi_int_tuple (ds : List D) (Q : RV → Prop) : wO (isiD "int" (.tuple ds)) Q = Q (.fz (.bool false)) := wO_some ..
theorem w_isi_int_list (ds : List D) (Q : RV → Prop) : wO (isiD "int" (.list ds)) Q = Q (.fz (.bool false)) := wO_some ..
theorem w_isi_str_none  (Q : RV → Prop) : wO (isiD "str" .none) Q = Q (.fz (.bool false)) := wO_some ..
theorem w_isi_str_bool (b : Bool) (Q : RV → Prop) : wO (isiD "str" (.bool b)) Q = Q (.fz (.bool false)) := wO_some ..
theorem w_isi_str_int (i : Int) (Q : RV → Prop) : wO (isiD "str" (.int i)) Q = Q (.fz (.bool false)) := wO_some ..
theorem w_isi_str_str (x : Str) (Q : RV → Prop) : wO (isiD "str" (.str x)) Q = Q (.fz (.bool true)) := wO_some ..
theorem w_isi_str_tuple (ds : List D) (Q : RV → Prop) : wO (isiD "str" (.tuple ds)) Q = Q (.fz (.bool false)) := wO_some ..
theorem w_isi_str_list (ds : List D) (Q : RV → Prop) : wO (isiD "str" (.list ds)) Q = Q (.fz (.bool false)) := wO_some ..
theorem w_isi_tuple_none  (Q : RV → Prop) : wO (isiD "tuple" .none) Q = Q (.fz (.bool false)) := wO_some ..
theorem w_isi_tuple_bool (b : Bool) (Q : RV → Prop) : wO (isiD "tuple" (.bool b)) Q = Q (.fz (.bool false)) := wO_some ..
theorem w_isi_tuple_int (i : Int) (Q : RV → Prop) : wO (isiD "tuple" (.int i)) Q = Q (.fz (.bool false)) := wO_some ..
theorem w_isi_tuple_str (x : Str) (Q : RV → Prop) : wO (isiD "tuple" (.str x)) Q = Q (.fz (.bool false)) := wO_some ..
theorem w_isi_tuple_tuple (ds : List D) (Q : RV → Prop) : wO (isiD "tuple" (.tuple ds)) Q = Q (.fz (.bool true)) := wO_some ..
theorem w_isi_tuple_list (ds : List D) (Q : RV → Prop) : wO (isiD "tuple" (.list ds)) Q = Q (.fz (.bool false)) := wO_some ..
theorem w_isi_list_none  (Q : RV → Prop) : wO (isiD "list" .none) Q = Q (.fz (.bool false)) := wO_some ..
theorem w_isi_list_bool (b : Bool) (Q : RV → Prop) : wO (isiD "list" (.bool b)) Q = Q (.fz (.bool false)) := wO_some ..
theorem w_isi_list_int (i : Int) (Q : RV → Prop) : wO (isiD "list" (.int i)) Q = Q (.fz (.bool false)) := wO_some ..
theorem w_isi_list_str (x : Str) (Q : RV → Prop) : wO (isiD "list" (.str x)) Q = Q (.fz (.bool false)) := wO_some ..
theorem w_isi_list_tuple (ds : List D) (Q : RV → Prop) : wO (isiD "list" (.tuple ds)) Q = Q (.fz (.bool false)) := wO_some ..
theorem w_isi_list_list (ds : List D) (Q : RV → Prop) : wO (isiD "list" (.list ds)) Q = Q (.fz (.bool true)) := wO_some ..
theorem w_isN_none (Q : RV → Prop) : wO (isN .none .none) Q = Q (.fz (.bool true)) := wO_some ..
theorem w_isN_bool (b : Bool) (Q : RV → Prop) : wO (isN (.bool b) .none) Q = Q (.fz (.bool false)) := wO_some ..
theorem w_isN_int (b : Int) (Q : RV → Prop) : wO (isN (.int b) .none) Q = Q (.fz (.bool false)) := wO_some ..
theorem w_isN_str (b : Str) (Q : RV → Prop) : wO (isN (.str b) .none) Q = Q (.fz (.bool false)) := wO_some ..
theorem w_isN_tuple (b : List D) (Q : RV → Prop) : wO (isN (.tuple b) .none) Q = Q (.fz (.bool false)) := wO_some ..
theorem w_notN_none (Q : RV → Prop) : wO (notN .none .none) Q = Q (.fz (.bool false)) := wO_some ..
theorem w_notN_bool (b : Bool) (Q : RV → Prop) : wO (notN (.bool b) .none) Q = Q (.fz (.bool true)) := wO_some ..
theorem w_notN_int (b : Int) (Q : RV → Prop) : wO (notN (.int b) .none) Q = Q (.fz (.bool true)) := wO_some ..
theorem w_notN_str (b : Str) (Q : RV → Prop) : wO (notN (.str b) .none) Q = Q (.fz (.bool true)) := wO_some ..
theorem w_notN_tuple (b : List D) (Q : RV → Prop) : wO (notN (.tuple b) .none) Q = Q (.fz (.bool true)) := wO_some ..
theorem w_eqb (a b : Bool) (Q : RV → Prop) : wO (eqD (.bool a) (.bool b)) Q = Q (.fz (.bool (a == b))) := by
  show wO (if (true : Bool) = true then rB (a == b) else none) Q = _
  rw [if_pos rfl]; exact wO_some ..
theorem shaped_str (a : Str) : SeqAt.shaped (.str a) = PyData.strOk a := by
  show (PyData.strOk a && true) = _
  exact Bool.and_true _
theorem w_eqs (a b : Str) (Q : RV → Prop) : wO (eqD (.str a) (.str b)) Q = ((PyData.strOk a && PyData.strOk b) = true ∧ Q (.fz (.bool (a == b)))) := by
  show wO (if (SeqAt.shaped (.str a) && SeqAt.shaped (.str b)) = true then rB (a == b) else none) Q = _
  rw [shaped_str, shaped_str, wO_if]; simp only [rB, wO_some]
/-! ### draws -/
abbrev Dr := {l : List Int // l.length ≤ 16777216}
def Dr.d (l : Dr) : D := .list (l.1.map .int)
theorem take_spec {l : Dr} {m : Int} {Q : RV × List D → Prop} (hm : 0 < m) (h : ∀ (r : Int) (l' : Dr), 0 ≤ r → r < m → Q (.fz (.int r), [l'.d])) : wO (F_take [.io l.d, .val (.int m)]) Q := by
  refine wO_fn rfl ?_
  unfold B_take Dr.d
  simp only [↓wO_some, ↓wO_none, ↓wSl_0, ↓wSl_s, ↓wP_0, ↓wP_s, ↓kW_no, ↓kW_val, ↓kW_own, ↓kW_ov, ↓wO_setSlot, ↓wE_C, ↓kB_val, ↓kB_own, ↓kB_io, ↓wE_B, ↓kV_val, ↓kV_own, ↓wE_V, ↓kM_val, ↓kM_own, ↓wE_M, ↓kF_fz, ↓kF_bw, ↓kF_fr, ↓wE_F, ↓wR_fz, ↓kCt_val, ↓kCt_own, ↓kCt_io, ↓wR_bw, ↓wE_bin, ↓wE_un, ↓wA_nil, ↓kA_fz, ↓kA_bw, ↓kA_fr, ↓wA_cons, ↓wRs_nil, ↓wRs_cons, ↓wE_args, ↓wZ_nil, ↓wZ_cons, ↓kSz_0, ↓kSz_1, ↓kSz_2, ↓kSz_3, ↓kSz_4, ↓kSz_5, ↓kSz_6, ↓kSz_7, ↓kSz_8, ↓wE_tup, ↓wE_lst, ↓kT_bool, ↓wT_tst, ↓wT_and, ↓wT_or, ↓wT_not, ↓wT_yes, ↓wE_bool, ↓wE_if, ↓kAs_val, ↓kAs_own, ↓kAs_io, ↓wAs_nil, ↓wAs_fz, ↓wAs_bw, ↓kOut_nil, ↓kOut_nilr, ↓kPut_own, ↓kPut_io, ↓kOut_one, ↓kOut_oner, ↓wE_call, ↓w_add, ↓w_sub, ↓w_mul, ↓w_mulI, ↓w_fdiv, ↓w_mod, ↓w_neg, ↓w_lt, ↓w_le, ↓w_gt, ↓w_ge, ↓w_eq, ↓w_ne, ↓w_abs, ↓w_min2, ↓w_max2, ↓w_int, ↓w_intb, ↓w_pow, ↓w_lenL, ↓w_lenT, ↓w_ixL, ↓w_ixT, ↓w_tupL, ↓w_tupT, ↓w_listL, ↓w_listT, ↓kS_nx, ↓kS_bk, ↓kS_rt, ↓wS_nx, ↓wS_bk, ↓wS_seq, ↓kSt_fz, ↓kSt_fr, ↓wS_set, ↓kR_fz, ↓kR_fr, ↓wS_ret, ↓wS_retN, ↓wS_drop, ↓wS_if, ↓kAg_val, ↓wS_aug, ↓wG_N, ↓wG_T, ↓wGs_nil, ↓wGs_cons, ↓kIt_L, ↓kIt_T, ↓wI_seq, ↓kG1_i, ↓wI_rg1, ↓kG2_i, ↓wI_rg2, ↓wS_for, ↓wS_while, ↓kAz_fz, ↓wS_asg, ↓kL_nx, ↓kL_bk, ↓kL_rt, ↓wE_comp, ↓wU_nil, ↓wU_io, ↓wU_val, ↓kFn_fz, ↓kFn_fr, ↓kFn_nx, ↓wM_append, ↓wM_pop, ↓wM_rev, ↓wM_ins, ↓wM_popAt, ↓kMt_own, ↓kMt_io, ↓wE_mut, ↓wE_mut0, ↓kSi_i, ↓kSo_fz, ↓wS_store, pl_1, pl_2, wipe_1, wipe_2, unw_1, unw_2, List.getD_cons_zero, List.getD_cons_succ, List.set_cons_zero, List.set_cons_succ, List.cons_append, List.nil_append, List.replicate_succ, List.replicate_zero, Nat.reduceSub, Nat.reduceAdd, Nat.reduceLT, plain_no, plain_val, plain_ov, Int.natCast_zero, Int.ofNat_zero, Int.cast_ofNat_Int, decide_eq_true_eq, decide_eq_false_iff_not, Bool.not_eq_true', Bool.not_eq_false', Bool.not_true, Bool.not_false, if_true, if_false, true_and, and_true, forall_const, decide_true, decide_false, Int.toNat_natCast, Int.reduceEq, Int.reduceNe, Int.reduceLT, Int.reduceLE, Int.zero_add, implies_true, true_implies, not_true_eq_false, not_false_eq_true, false_implies, false_and, and_false, reduceCtorEq, ite_true, ite_false, eq_self, List.length_cons, List.length_nil]
  obtain ⟨l, hl⟩ := l
  refine ⟨fun _ => h 0 ⟨l, hl⟩ (Int.le_refl _) hm, fun h0 => ?_⟩
  have h0 : l ≠ [] := fun z => h0 (by subst z; rfl)
  have hk : 0 < l.length := List.length_pos_iff.mpr h0
  rw [List.getElem?_map, List.length_map, List.getElem?_eq_getElem (by omega : l.length - 1 < l.length)]
  show wO (some _) _
  simp only [↓wO_some, ↓wO_none, ↓wSl_0, ↓wSl_s, ↓wP_0, ↓wP_s, ↓kW_no, ↓kW_val, ↓kW_own, ↓kW_ov, ↓wO_setSlot, ↓wE_C, ↓kB_val, ↓kB_own, ↓kB_io, ↓wE_B, ↓kV_val, ↓kV_own, ↓wE_V, ↓kM_val, ↓kM_own, ↓wE_M, ↓kF_fz, ↓kF_bw, ↓kF_fr, ↓wE_F, ↓wR_fz, ↓kCt_val, ↓kCt_own, ↓kCt_io, ↓wR_bw, ↓wE_bin, ↓wE_un, ↓wA_nil, ↓kA_fz, ↓kA_bw, ↓kA_fr, ↓wA_cons, ↓wRs_nil, ↓wRs_cons, ↓wE_args, ↓wZ_nil, ↓wZ_cons, ↓kSz_0, ↓kSz_1, ↓kSz_2, ↓kSz_3, ↓kSz_4, ↓kSz_5, ↓kSz_6, ↓kSz_7, ↓kSz_8, ↓wE_tup, ↓wE_lst, ↓kT_bool, ↓wT_tst, ↓wT_and, ↓wT_or, ↓wT_not, ↓wT_yes, ↓wE_bool, ↓wE_if, ↓kAs_val, ↓kAs_own, ↓kAs_io, ↓wAs_nil, ↓wAs_fz, ↓wAs_bw, ↓kOut_nil, ↓kOut_nilr, ↓kPut_own, ↓kPut_io, ↓kOut_one, ↓kOut_oner, ↓wE_call, ↓w_add, ↓w_sub, ↓w_mul, ↓w_mulI, ↓w_fdiv, ↓w_mod, ↓w_neg, ↓w_lt, ↓w_le, ↓w_gt, ↓w_ge, ↓w_eq, ↓w_ne, ↓w_abs, ↓w_min2, ↓w_max2, ↓w_int, ↓w_intb, ↓w_pow, ↓w_lenL, ↓w_lenT, ↓w_ixL, ↓w_ixT, ↓w_tupL, ↓w_tupT, ↓w_listL, ↓w_listT, ↓kS_nx, ↓kS_bk, ↓kS_rt, ↓wS_nx, ↓wS_bk, ↓wS_seq, ↓kSt_fz, ↓kSt_fr, ↓wS_set, ↓kR_fz, ↓kR_fr, ↓wS_ret, ↓wS_retN, ↓wS_drop, ↓wS_if, ↓kAg_val, ↓wS_aug, ↓wG_N, ↓wG_T, ↓wGs_nil, ↓wGs_cons, ↓kIt_L, ↓kIt_T, ↓wI_seq, ↓kG1_i, ↓wI_rg1, ↓kG2_i, ↓wI_rg2, ↓wS_for, ↓wS_while, ↓kAz_fz, ↓wS_asg, ↓kL_nx, ↓kL_bk, ↓kL_rt, ↓wE_comp, ↓wU_nil, ↓wU_io, ↓wU_val, ↓kFn_fz, ↓kFn_fr, ↓kFn_nx, ↓wM_append, ↓wM_pop, ↓wM_rev, ↓wM_ins, ↓wM_popAt, ↓kMt_own, ↓kMt_io, ↓wE_mut, ↓wE_mut0, ↓kSi_i, ↓kSo_fz, ↓wS_store, pl_1, pl_2, wipe_1, wipe_2, unw_1, unw_2, List.getD_cons_zero, List.getD_cons_succ, List.set_cons_zero, List.set_cons_succ, List.cons_append, List.nil_append, List.replicate_succ, List.replicate_zero, Nat.reduceSub, Nat.reduceAdd, Nat.reduceLT, plain_no, plain_val, plain_ov, Int.natCast_zero, Int.ofNat_zero, Int.cast_ofNat_Int, decide_eq_true_eq, decide_eq_false_iff_not, Bool.not_eq_true', Bool.not_eq_false', Bool.not_true, Bool.not_false, if_true, if_false, true_and, and_true, forall_const, decide_true, decide_false, Int.toNat_natCast, Int.reduceEq, Int.reduceNe, Int.reduceLT, Int.reduceLE, Int.zero_add, implies_true, true_implies, not_true_eq_false, not_false_eq_true, false_implies, false_and, and_false, reduceCtorEq, ite_true, ite_false, eq_self, List.length_cons, List.length_nil]
  refine ⟨szB_of (by rw [List.length_dropLast, List.length_map]; omega), ?_⟩
  refine ⟨by omega, ?_⟩
  have := h ((l[l.length - 1]'(by omega)).fmod m) ⟨l.dropLast, by rw [List.length_dropLast]; omega⟩ (Int.fmod_nonneg_of_pos _ hm) (Int.fmod_lt_of_pos _ hm)
  unfold Dr.d at this
  rw [List.map_dropLast] at this
  exact this
theorem draws_go {cells : List Int} (hc : cells ≠ []) {F : SF} : True := trivial
/-! ### same -/
inductive Pl : Nat → D → Prop
  | none {n} : Pl n .none
  | bool {n} (b) : Pl n (.bool b)
  | int {n} (i) : Pl n (.int i)
  | str {n} {x} : PyData.strOk x = true → Pl n (.str x)
  | tuple {n} {ds : List D} : ds.length ≤ 16777216 → (∀ d, d ∈ ds → Pl n d) → Pl (n + 1) (.tuple ds)
theorem ixN_nat {n : Nat} {i : Nat} (h : i < n) : ixN n (i : Int) = some i := by
  unfold ixN
  rw [if_pos (by omega), if_pos (by omega)]; rfl
theorem atD_nat {ds : List D} {i : Nat} {d : D} (h : ds[i]? = some d) : atD ds (i : Int) = some d := by
  unfold atD
  rw [ixN_nat (List.getElem?_eq_some_iff.mp h).1]; exact h
theorem rOk_nat {n : Nat} (h : n ≤ 16777216) : rOk (n : Int) = true := by
  unfold rOk
  rw [Bool.and_eq_true, decide_eq_true_eq, decide_eq_true_eq]; omega
theorem sameA_refl : ∀ (n : Nat) (a : D), Pl n a → R_sameA (n + 1) [.val a, .val a] = some (.fz (.bool true), []) := by
  intro n
  induction n with
  | zero =>
    intro a h
    refine eq_of_wO (wO_fn rfl ?_)
    unfold B_sameA
    cases h with
    | none => simp only [↓wO_some, ↓wO_none, ↓wSl_0, ↓wSl_s, ↓wP_0, ↓wP_s, ↓kW_no, ↓kW_val, ↓kW_own, ↓kW_ov, ↓wO_setSlot, ↓wE_C, ↓kB_val, ↓kB_own, ↓kB_io, ↓wE_B, ↓kV_val, ↓kV_own, ↓wE_V, ↓kM_val, ↓kM_own, ↓wE_M, ↓kF_fz, ↓kF_bw, ↓kF_fr, ↓wE_F, ↓wR_fz, ↓kCt_val, ↓kCt_own, ↓kCt_io, ↓wR_bw, ↓wE_bin, ↓wE_un, ↓wA_nil, ↓kA_fz, ↓kA_bw, ↓kA_fr, ↓wA_cons, ↓wRs_nil, ↓wRs_cons, ↓wE_args, ↓wZ_nil, ↓wZ_cons, ↓kSz_0, ↓kSz_1, ↓kSz_2, ↓kSz_3, ↓kSz_4, ↓kSz_5, ↓kSz_6, ↓kSz_7, ↓kSz_8, ↓wE_tup, ↓wE_lst, ↓kT_bool, ↓wT_tst, ↓wT_and, ↓wT_or, ↓wT_not, ↓wT_yes, ↓wE_bool, ↓wE_if, ↓kAs_val, ↓kAs_own, ↓kAs_io, ↓wAs_nil, ↓wAs_fz, ↓wAs_bw, ↓kOut_nil, ↓kOut_nilr, ↓kPut_own, ↓kPut_io, ↓kOut_one, ↓kOut_oner, ↓wE_call, ↓w_add, ↓w_sub, ↓w_mul, ↓w_mulI, ↓w_fdiv, ↓w_mod, ↓w_neg, ↓w_lt, ↓w_le, ↓w_gt, ↓w_ge, ↓w_eq, ↓w_ne, ↓w_abs, ↓w_min2, ↓w_max2, ↓w_int, ↓w_intb, ↓w_pow, ↓w_lenL, ↓w_lenT, ↓w_ixL, ↓w_ixT, ↓w_tupL, ↓w_tupT, ↓w_listL, ↓w_listT, ↓kS_nx, ↓kS_bk, ↓kS_rt, ↓wS_nx, ↓wS_bk, ↓wS_seq, ↓kSt_fz, ↓kSt_fr, ↓wS_set, ↓kR_fz, ↓kR_fr, ↓wS_ret, ↓wS_retN, ↓wS_drop, ↓wS_if, ↓kAg_val, ↓wS_aug, ↓wG_N, ↓wG_T, ↓wGs_nil, ↓wGs_cons, ↓kIt_L, ↓kIt_T, ↓wI_seq, ↓kG1_i, ↓wI_rg1, ↓kG2_i, ↓wI_rg2, ↓wS_for, ↓wS_while, ↓kAz_fz, ↓wS_asg, ↓kL_nx, ↓kL_bk, ↓kL_rt, ↓wE_comp, ↓wU_nil, ↓wU_io, ↓wU_val, ↓kFn_fz, ↓kFn_fr, ↓kFn_nx, ↓wM_append, ↓wM_pop, ↓wM_rev, ↓wM_ins, ↓wM_popAt, ↓kMt_own, ↓kMt_io, ↓wE_mut, ↓wE_mut0, ↓kSi_i, ↓kSo_fz, ↓wS_store, pl_1, pl_2, wipe_1, wipe_2, unw_1, unw_2, List.getD_cons_zero, List.getD_cons_succ, List.set_cons_zero, List.set_cons_succ, List.cons_append, List.nil_append, List.replicate_succ, List.replicate_zero, Nat.reduceSub, Nat.reduceAdd, Nat.reduceLT, plain_no, plain_val, plain_ov, Int.natCast_zero, Int.ofNat_zero, Int.cast_ofNat_Int, decide_eq_true_eq, decide_eq_false_iff_not, Bool.not_eq_true', Bool.not_eq_false', Bool.not_true, Bool.not_false, if_true, if_false, true_and, and_true, forall_const, decide_true, decide_false, Int.toNat_natCast, Int.reduceEq, Int.reduceNe, Int.reduceLT, Int.reduceLE, Int.zero_add, implies_true, true_implies, not_true_eq_false, not_false_eq_true, false_implies, false_and, and_false, reduceCtorEq, ite_true, ite_false, eq_self, List.length_cons, List.length_nil, ↓w_isi_bool_none, ↓w_isi_bool_bool, ↓w_isi_bool_int, ↓w_isi_bool_str, ↓w_isi_bool_tuple, ↓w_isi_bool_list, ↓w_isi_int_none, ↓w_isi_int_bool, ↓w_isi_int_int, ↓w_isi_int_str, ↓w_isi_int_tuple, ↓w_isi_int_list, ↓w_isi_str_none, ↓w_isi_str_bool, ↓w_isi_str_int, ↓w_isi_str_str, ↓w_isi_str_tuple, ↓w_isi_str_list, ↓w_isi_tuple_none, ↓w_isi_tuple_bool, ↓w_isi_tuple_int, ↓w_isi_tuple_str, ↓w_isi_tuple_tuple, ↓w_isi_tuple_list, ↓w_isi_list_none, ↓w_isi_list_bool, ↓w_isi_list_int, ↓w_isi_list_str, ↓w_isi_list_tuple, ↓w_isi_list_list, ↓w_isN_none, ↓w_isN_bool, ↓w_isN_int, ↓w_isN_str, ↓w_isN_tuple]
    | bool b => simp only [↓wO_some, ↓wO_none, ↓wSl_0, ↓wSl_s, ↓wP_0, ↓wP_s, ↓kW_no, ↓kW_val, ↓kW_own, ↓kW_ov, ↓wO_setSlot, ↓wE_C, ↓kB_val, ↓kB_own, ↓kB_io, ↓wE_B, ↓kV_val, ↓kV_own, ↓wE_V, ↓kM_val, ↓kM_own, ↓wE_M, ↓kF_fz, ↓kF_bw, ↓kF_fr, ↓wE_F, ↓wR_fz, ↓kCt_val, ↓kCt_own, ↓kCt_io, ↓wR_bw, ↓wE_bin, ↓wE_un, ↓wA_nil, ↓kA_fz, ↓kA_bw, ↓kA_fr, ↓wA_cons, ↓wRs_nil, ↓wRs_cons, ↓wE_args, ↓wZ_nil, ↓wZ_cons, ↓kSz_0, ↓kSz_1, ↓kSz_2, ↓kSz_3, ↓kSz_4, ↓kSz_5, ↓kSz_6, ↓kSz_7, ↓kSz_8, ↓wE_tup, ↓wE_lst, ↓kT_bool, ↓wT_tst, ↓wT_and, ↓wT_or, ↓wT_not, ↓wT_yes, ↓wE_bool, ↓wE_if, ↓kAs_val, ↓kAs_own, ↓kAs_io, ↓wAs_nil, ↓wAs_fz, ↓wAs_bw, ↓kOut_nil, ↓kOut_nilr, ↓kPut_own, ↓kPut_io, ↓kOut_one, ↓kOut_oner, ↓wE_call, ↓w_add, ↓w_sub, ↓w_mul, ↓w_mulI, ↓w_fdiv, ↓w_mod, ↓w_neg, ↓w_lt, ↓w_le, ↓w_gt, ↓w_ge, ↓w_eq, ↓w_ne, ↓w_abs, ↓w_min2, ↓w_max2, ↓w_int, ↓w_intb, ↓w_pow, ↓w_lenL, ↓w_lenT, ↓w_ixL, ↓w_ixT, ↓w_tupL, ↓w_tupT, ↓w_listL, ↓w_listT, ↓kS_nx, ↓kS_bk, ↓kS_rt, ↓wS_nx, ↓wS_bk, ↓wS_seq, ↓kSt_fz, ↓kSt_fr, ↓wS_set, ↓kR_fz, ↓kR_fr, ↓wS_ret, ↓wS_retN, ↓wS_drop, ↓wS_if, ↓kAg_val, ↓wS_aug, ↓wG_N, ↓wG_T, ↓wGs_nil, ↓wGs_cons, ↓kIt_L, ↓kIt_T, ↓wI_seq, ↓kG1_i, ↓wI_rg1, ↓kG2_i, ↓wI_rg2, ↓wS_for, ↓wS_while, ↓kAz_fz, ↓wS_asg, ↓kL_nx, ↓kL_bk, ↓kL_rt, ↓wE_comp, ↓wU_nil, ↓wU_io, ↓wU_val, ↓kFn_fz, ↓kFn_fr, ↓kFn_nx, ↓wM_append, ↓wM_pop, ↓wM_rev, ↓wM_ins, ↓wM_popAt, ↓kMt_own, ↓kMt_io, ↓wE_mut, ↓wE_mut0, ↓kSi_i, ↓kSo_fz, ↓wS_store, pl_1, pl_2, wipe_1, wipe_2, unw_1, unw_2, List.getD_cons_zero, List.getD_cons_succ, List.set_cons_zero, List.set_cons_succ, List.cons_append, List.nil_append, List.replicate_succ, List.replicate_zero, Nat.reduceSub, Nat.reduceAdd, Nat.reduceLT, plain_no, plain_val, plain_ov, Int.natCast_zero, Int.ofNat_zero, Int.cast_ofNat_Int, decide_eq_true_eq, decide_eq_false_iff_not, Bool.not_eq_true', Bool.not_eq_false', Bool.not_true, Bool.not_false, if_true, if_false, true_and, and_true, forall_const, decide_true, decide_false, Int.toNat_natCast, Int.reduceEq, Int.reduceNe, Int.reduceLT, Int.reduceLE, Int.zero_add, implies_true, true_implies, not_true_eq_false, not_false_eq_true, false_implies, false_and, and_false, reduceCtorEq, ite_true, ite_false, eq_self, List.length_cons, List.length_nil, ↓w_isi_bool_none, ↓w_isi_bool_bool, ↓w_isi_bool_int, ↓w_isi_bool_str, ↓w_isi_bool_tuple, ↓w_isi_bool_list, ↓w_isi_int_none, ↓w_isi_int_bool, ↓w_isi_int_int, ↓w_isi_int_str, ↓w_isi_int_tuple, ↓w_isi_int_list, ↓w_isi_str_none, ↓w_isi_str_bool, ↓w_isi_str_int, ↓w_isi_str_str, ↓w_isi_str_tuple, ↓w_isi_str_list, ↓w_isi_tuple_none, ↓w_isi_tuple_bool, ↓w_isi_tuple_int, ↓w_isi_tuple_str, ↓w_isi_tuple_tuple, ↓w_isi_tuple_list, ↓w_isi_list_none, ↓w_isi_list_bool, ↓w_isi_list_int, ↓w_isi_list_str, ↓w_isi_list_tuple, ↓w_isi_list_list, ↓w_isN_none, ↓w_isN_bool, ↓w_isN_int, ↓w_isN_str, ↓w_isN_tuple, w_eqb, beq_self_eq_true]
    | int i => simp only [↓wO_some, ↓wO_none, ↓wSl_0, ↓wSl_s, ↓wP_0, ↓wP_s, ↓kW_no, ↓kW_val, ↓kW_own, ↓kW_ov, ↓wO_setSlot, ↓wE_C, ↓kB_val, ↓kB_own, ↓kB_io, ↓wE_B, ↓kV_val, ↓kV_own, ↓wE_V, ↓kM_val, ↓kM_own, ↓wE_M, ↓kF_fz, ↓kF_bw, ↓kF_fr, ↓wE_F, ↓wR_fz, ↓kCt_val, ↓kCt_own, ↓kCt_io, ↓wR_bw, ↓wE_bin, ↓wE_un, ↓wA_nil, ↓kA_fz, ↓kA_bw, ↓kA_fr, ↓wA_cons, ↓wRs_nil, ↓wRs_cons, ↓wE_args, ↓wZ_nil, ↓wZ_cons, ↓kSz_0, ↓kSz_1, ↓kSz_2, ↓kSz_3, ↓kSz_4, ↓kSz_5, ↓kSz_6, ↓kSz_7, ↓kSz_8, ↓wE_tup, ↓wE_lst, ↓kT_bool, ↓wT_tst, ↓wT_and, ↓wT_or, ↓wT_not, ↓wT_yes, ↓wE_bool, ↓wE_if, ↓kAs_val, ↓kAs_own, ↓kAs_io, ↓wAs_nil, ↓wAs_fz, ↓wAs_bw, ↓kOut_nil, ↓kOut_nilr, ↓kPut_own, ↓kPut_io, ↓kOut_one, ↓kOut_oner, ↓wE_call, ↓w_add, ↓w_sub, ↓w_mul, ↓w_mulI, ↓w_fdiv, ↓w_mod, ↓w_neg, ↓w_lt, ↓w_le, ↓w_gt, ↓w_ge, ↓w_eq, ↓w_ne, ↓w_abs, ↓w_min2, ↓w_max2, ↓w_int, ↓w_intb, ↓w_pow, ↓w_lenL, ↓w_lenT, ↓w_ixL, ↓w_ixT, ↓w_tupL, ↓w_tupT, ↓w_listL, ↓w_listT, ↓kS_nx, ↓kS_bk, ↓kS_rt, ↓wS_nx, ↓wS_bk, ↓wS_seq, ↓kSt_fz, ↓kSt_fr, ↓wS_set, ↓kR_fz, ↓kR_fr, ↓wS_ret, ↓wS_retN, ↓wS_drop, ↓wS_if, ↓kAg_val, ↓wS_aug, ↓wG_N, ↓wG_T, ↓wGs_nil, ↓wGs_cons, ↓kIt_L, ↓kIt_T, ↓wI_seq, ↓kG1_i, ↓wI_rg1, ↓kG2_i, ↓wI_rg2, ↓wS_for, ↓wS_while, ↓kAz_fz, ↓wS_asg, ↓kL_nx, ↓kL_bk, ↓kL_rt, ↓wE_comp, ↓wU_nil, ↓wU_io, ↓wU_val, ↓kFn_fz, ↓kFn_fr, ↓kFn_nx, ↓wM_append, ↓wM_pop, ↓wM_rev, ↓wM_ins, ↓wM_popAt, ↓kMt_own, ↓kMt_io, ↓wE_mut, ↓wE_mut0, ↓kSi_i, ↓kSo_fz, ↓wS_store, pl_1, pl_2, wipe_1, wipe_2, unw_1, unw_2, List.getD_cons_zero, List.getD_cons_succ, List.set_cons_zero, List.set_cons_succ, List.cons_append, List.nil_append, List.replicate_succ, List.replicate_zero, Nat.reduceSub, Nat.reduceAdd, Nat.reduceLT, plain_no, plain_val, plain_ov, Int.natCast_zero, Int.ofNat_zero, Int.cast_ofNat_Int, decide_eq_true_eq, decide_eq_false_iff_not, Bool.not_eq_true', Bool.not_eq_false', Bool.not_true, Bool.not_false, if_true, if_false, true_and, and_true, forall_const, decide_true, decide_false, Int.toNat_natCast, Int.reduceEq, Int.reduceNe, Int.reduceLT, Int.reduceLE, Int.zero_add, implies_true, true_implies, not_true_eq_false, not_false_eq_true, false_implies, false_and, and_false, reduceCtorEq, ite_true, ite_false, eq_self, List.length_cons, List.length_nil, ↓w_isi_bool_none, ↓w_isi_bool_bool, ↓w_isi_bool_int, ↓w_isi_bool_str, ↓w_isi_bool_tuple, ↓w_isi_bool_list, ↓w_isi_int_none, ↓w_isi_int_bool, ↓w_isi_int_int, ↓w_isi_int_str, ↓w_isi_int_tuple, ↓w_isi_int_list, ↓w_isi_str_none, ↓w_isi_str_bool, ↓w_isi_str_int, ↓w_isi_str_str, ↓w_isi_str_tuple, ↓w_isi_str_list, ↓w_isi_tuple_none, ↓w_isi_tuple_bool, ↓w_isi_tuple_int, ↓w_isi_tuple_str, ↓w_isi_tuple_tuple, ↓w_isi_tuple_list, ↓w_isi_list_none, ↓w_isi_list_bool, ↓w_isi_list_int, ↓w_isi_list_str, ↓w_isi_list_tuple, ↓w_isi_list_list, ↓w_isN_none, ↓w_isN_bool, ↓w_isN_int, ↓w_isN_str, ↓w_isN_tuple]
    | str h => simp only [↓wO_some, ↓wO_none, ↓wSl_0, ↓wSl_s, ↓wP_0, ↓wP_s, ↓kW_no, ↓kW_val, ↓kW_own, ↓kW_ov, ↓wO_setSlot, ↓wE_C, ↓kB_val, ↓kB_own, ↓kB_io, ↓wE_B, ↓kV_val, ↓kV_own, ↓wE_V, ↓kM_val, ↓kM_own, ↓wE_M, ↓kF_fz, ↓kF_bw, ↓kF_fr, ↓wE_F, ↓wR_fz, ↓kCt_val, ↓kCt_own, ↓kCt_io, ↓wR_bw, ↓wE_bin, ↓wE_un, ↓wA_nil, ↓kA_fz, ↓kA_bw, ↓kA_fr, ↓wA_cons, ↓wRs_nil, ↓wRs_cons, ↓wE_args, ↓wZ_nil, ↓wZ_cons, ↓kSz_0, ↓kSz_1, ↓kSz_2, ↓kSz_3, ↓kSz_4, ↓kSz_5, ↓kSz_6, ↓kSz_7, ↓kSz_8, ↓wE_tup, ↓wE_lst, ↓kT_bool, ↓wT_tst, ↓wT_and, ↓wT_or, ↓wT_not, ↓wT_yes, ↓wE_bool, ↓wE_if, ↓kAs_val, ↓kAs_own, ↓kAs_io, ↓wAs_nil, ↓wAs_fz, ↓wAs_bw, ↓kOut_nil, ↓kOut_nilr, ↓kPut_own, ↓kPut_io, ↓kOut_one, ↓kOut_oner, ↓wE_call, ↓w_add, ↓w_sub, ↓w_mul, ↓w_mulI, ↓w_fdiv, ↓w_mod, ↓w_neg, ↓w_lt, ↓w_le, ↓w_gt, ↓w_ge, ↓w_eq, ↓w_ne, ↓w_abs, ↓w_min2, ↓w_max2, ↓w_int, ↓w_intb, ↓w_pow, ↓w_lenL, ↓w_lenT, ↓w_ixL, ↓w_ixT, ↓w_tupL, ↓w_tupT, ↓w_listL, ↓w_listT, ↓kS_nx, ↓kS_bk, ↓kS_rt, ↓wS_nx, ↓wS_bk, ↓wS_seq, ↓kSt_fz, ↓kSt_fr, ↓wS_set, ↓kR_fz, ↓kR_fr, ↓wS_ret, ↓wS_retN, ↓wS_drop, ↓wS_if, ↓kAg_val, ↓wS_aug, ↓wG_N, ↓wG_T, ↓wGs_nil, ↓wGs_cons, ↓kIt_L, ↓kIt_T, ↓wI_seq, ↓kG1_i, ↓wI_rg1, ↓kG2_i, ↓wI_rg2, ↓wS_for, ↓wS_while, ↓kAz_fz, ↓wS_asg, ↓kL_nx, ↓kL_bk, ↓kL_rt, ↓wE_comp, ↓wU_nil, ↓wU_io, ↓wU_val, ↓kFn_fz, ↓kFn_fr, ↓kFn_nx, ↓wM_append, ↓wM_pop, ↓wM_rev, ↓wM_ins, ↓wM_popAt, ↓kMt_own, ↓kMt_io, ↓wE_mut, ↓wE_mut0, ↓kSi_i, ↓kSo_fz, ↓wS_store, pl_1, pl_2, wipe_1, wipe_2, unw_1, unw_2, List.getD_cons_zero, List.getD_cons_succ, List.set_cons_zero, List.set_cons_succ, List.cons_append, List.nil_append, List.replicate_succ, List.replicate_zero, Nat.reduceSub, Nat.reduceAdd, Nat.reduceLT, plain_no, plain_val, plain_ov, Int.natCast_zero, Int.ofNat_zero, Int.cast_ofNat_Int, decide_eq_true_eq, decide_eq_false_iff_not, Bool.not_eq_true', Bool.not_eq_false', Bool.not_true, Bool.not_false, if_true, if_false, true_and, and_true, forall_const, decide_true, decide_false, Int.toNat_natCast, Int.reduceEq, Int.reduceNe, Int.reduceLT, Int.reduceLE, Int.zero_add, implies_true, true_implies, not_true_eq_false, not_false_eq_true, false_implies, false_and, and_false, reduceCtorEq, ite_true, ite_false, eq_self, List.length_cons, List.length_nil, ↓w_isi_bool_none, ↓w_isi_bool_bool, ↓w_isi_bool_int, ↓w_isi_bool_str, ↓w_isi_bool_tuple, ↓w_isi_bool_list, ↓w_isi_int_none, ↓w_isi_int_bool, ↓w_isi_int_int, ↓w_isi_int_str, ↓w_isi_int_tuple, ↓w_isi_int_list, ↓w_isi_str_none, ↓w_isi_str_bool, ↓w_isi_str_int, ↓w_isi_str_str, ↓w_isi_str_tuple, ↓w_isi_str_list, ↓w_isi_tuple_none, ↓w_isi_tuple_bool, ↓w_isi_tuple_int, ↓w_isi_tuple_str, ↓w_isi_tuple_tuple, ↓w_isi_tuple_list, ↓w_isi_list_none, ↓w_isi_list_bool, ↓w_isi_list_int, ↓w_isi_list_str, ↓w_isi_list_tuple, ↓w_isi_list_list, ↓w_isN_none, ↓w_isN_bool, ↓w_isN_int, ↓w_isN_str, ↓w_isN_tuple, w_eqs, h, Bool.and_self, beq_self_eq_true]
  | succ n ih =>
    intro a h
    refine eq_of_wO (wO_fn rfl ?_)
    unfold B_sameA
    cases h with
    | none => simp only [↓wO_some, ↓wO_none, ↓wSl_0, ↓wSl_s, ↓wP_0, ↓wP_s, ↓kW_no, ↓kW_val, ↓kW_own, ↓kW_ov, ↓wO_setSlot, ↓wE_C, ↓kB_val, ↓kB_own, ↓kB_io, ↓wE_B, ↓kV_val, ↓kV_own, ↓wE_V, ↓kM_val, ↓kM_own, ↓wE_M, ↓kF_fz, ↓kF_bw, ↓kF_fr, ↓wE_F, ↓wR_fz, ↓kCt_val, ↓kCt_own, ↓kCt_io, ↓wR_bw, ↓wE_bin, ↓wE_un, ↓wA_nil, ↓kA_fz, ↓kA_bw, ↓kA_fr, ↓wA_cons, ↓wRs_nil, ↓wRs_cons, ↓wE_args, ↓wZ_nil, ↓wZ_cons, ↓kSz_0, ↓kSz_1, ↓kSz_2, ↓kSz_3, ↓kSz_4, ↓kSz_5, ↓kSz_6, ↓kSz_7, ↓kSz_8, ↓wE_tup, ↓wE_lst, ↓kT_bool, ↓wT_tst, ↓wT_and, ↓wT_or, ↓wT_not, ↓wT_yes, ↓wE_bool, ↓wE_if, ↓kAs_val, ↓kAs_own, ↓kAs_io, ↓wAs_nil, ↓wAs_fz, ↓wAs_bw, ↓kOut_nil, ↓kOut_nilr, ↓kPut_own, ↓kPut_io, ↓kOut_one, ↓kOut_oner, ↓wE_call, ↓w_add, ↓w_sub, ↓w_mul, ↓w_mulI, ↓w_fdiv, ↓w_mod, ↓w_neg, ↓w_lt, ↓w_le, ↓w_gt, ↓w_ge, ↓w_eq, ↓w_ne, ↓w_abs, ↓w_min2, ↓w_max2, ↓w_int, ↓w_intb, ↓w_pow, ↓w_lenL, ↓w_lenT, ↓w_ixL, ↓w_ixT, ↓w_tupL, ↓w_tupT, ↓w_listL, ↓w_listT, ↓kS_nx, ↓kS_bk, ↓kS_rt, ↓wS_nx, ↓wS_bk, ↓wS_seq, ↓kSt_fz, ↓kSt_fr, ↓wS_set, ↓kR_fz, ↓kR_fr, ↓wS_ret, ↓wS_retN, ↓wS_drop, ↓wS_if, ↓kAg_val, ↓wS_aug, ↓wG_N, ↓wG_T, ↓wGs_nil, ↓wGs_cons, ↓kIt_L, ↓kIt_T, ↓wI_seq, ↓kG1_i, ↓wI_rg1, ↓kG2_i, ↓wI_rg2, ↓wS_for, ↓wS_while, ↓kAz_fz, ↓wS_asg, ↓kL_nx, ↓kL_bk, ↓kL_rt, ↓wE_comp, ↓wU_nil, ↓wU_io, ↓wU_val, ↓kFn_fz, ↓kFn_fr, ↓kFn_nx, ↓wM_append, ↓wM_pop, ↓wM_rev, ↓wM_ins, ↓wM_popAt, ↓kMt_own, ↓kMt_io, ↓wE_mut, ↓wE_mut0, ↓kSi_i, ↓kSo_fz, ↓wS_store, pl_1, pl_2, wipe_1, wipe_2, unw_1, unw_2, List.getD_cons_zero, List.getD_cons_succ, List.set_cons_zero, List.set_cons_succ, List.cons_append, List.nil_append, List.replicate_succ, List.replicate_zero, Nat.reduceSub, Nat.reduceAdd, Nat.reduceLT, plain_no, plain_val, plain_ov, Int.natCast_zero, Int.ofNat_zero, Int.cast_ofNat_Int, decide_eq_true_eq, decide_eq_false_iff_not, Bool.not_eq_true', Bool.not_eq_false', Bool.not_true, Bool.not_false, if_true, if_false, true_and, and_true, forall_const, decide_true, decide_false, Int.toNat_natCast, Int.reduceEq, Int.reduceNe, Int.reduceLT, Int.reduceLE, Int.zero_add, implies_true, true_implies, not_true_eq_false, not_false_eq_true, false_implies, false_and, and_false, reduceCtorEq, ite_true, ite_false, eq_self, List.length_cons, List.length_nil, ↓w_isi_bool_none, ↓w_isi_bool_bool, ↓w_isi_bool_int, ↓w_isi_bool_str, ↓w_isi_bool_tuple, ↓w_isi_bool_list, ↓w_isi_int_none, ↓w_isi_int_bool, ↓w_isi_int_int, ↓w_isi_int_str, ↓w_isi_int_tuple, ↓w_isi_int_list, ↓w_isi_str_none, ↓w_isi_str_bool, ↓w_isi_str_int, ↓w_isi_str_str, ↓w_isi_str_tuple, ↓w_isi_str_list, ↓w_isi_tuple_none, ↓w_isi_tuple_bool, ↓w_isi_tuple_int, ↓w_isi_tuple_str, ↓w_isi_tuple_tuple, ↓w_isi_tuple_list, ↓w_isi_list_none, ↓w_isi_list_bool, ↓w_isi_list_int, ↓w_isi_list_str, ↓w_isi_list_tuple, ↓w_isi_list_list, ↓w_isN_none, ↓w_isN_bool, ↓w_isN_int, ↓w_isN_str, ↓w_isN_tuple]
    | bool b => simp only [↓wO_some, ↓wO_none, ↓wSl_0, ↓wSl_s, ↓wP_0, ↓wP_s, ↓kW_no, ↓kW_val, ↓kW_own, ↓kW_ov, ↓wO_setSlot, ↓wE_C, ↓kB_val, ↓kB_own, ↓kB_io, ↓wE_B, ↓kV_val, ↓kV_own, ↓wE_V, ↓kM_val, ↓kM_own, ↓wE_M, ↓kF_fz, ↓kF_bw, ↓kF_fr, ↓wE_F, ↓wR_fz, ↓kCt_val, ↓kCt_own, ↓kCt_io, ↓wR_bw, ↓wE_bin, ↓wE_un, ↓wA_nil, ↓kA_fz, ↓kA_bw, ↓kA_fr, ↓wA_cons, ↓wRs_nil, ↓wRs_cons, ↓wE_args, ↓wZ_nil, ↓wZ_cons, ↓kSz_0, ↓kSz_1, ↓kSz_2, ↓kSz_3, ↓kSz_4, ↓kSz_5, ↓kSz_6, ↓kSz_7, ↓kSz_8, ↓wE_tup, ↓wE_lst, ↓kT_bool, ↓wT_tst, ↓wT_and, ↓wT_or, ↓wT_not, ↓wT_yes, ↓wE_bool, ↓wE_if, ↓kAs_val, ↓kAs_own, ↓kAs_io, ↓wAs_nil, ↓wAs_fz, ↓wAs_bw, ↓kOut_nil, ↓kOut_nilr, ↓kPut_own, ↓kPut_io, ↓kOut_one, ↓kOut_oner, ↓wE_call, ↓w_add, ↓w_sub, ↓w_mul, ↓w_mulI, ↓w_fdiv, ↓w_mod, ↓w_neg, ↓w_lt, ↓w_le, ↓w_gt, ↓w_ge, ↓w_eq, ↓w_ne, ↓w_abs, ↓w_min2, ↓w_max2, ↓w_int, ↓w_intb, ↓w_pow, ↓w_lenL, ↓w_lenT, ↓w_ixL, ↓w_ixT, ↓w_tupL, ↓w_tupT, ↓w_listL, ↓w_listT, ↓kS_nx, ↓kS_bk, ↓kS_rt, ↓wS_nx, ↓wS_bk, ↓wS_seq, ↓kSt_fz, ↓kSt_fr, ↓wS_set, ↓kR_fz, ↓kR_fr, ↓wS_ret, ↓wS_retN, ↓wS_drop, ↓wS_if, ↓kAg_val, ↓wS_aug, ↓wG_N, ↓wG_T, ↓wGs_nil, ↓wGs_cons, ↓kIt_L, ↓kIt_T, ↓wI_seq, ↓kG1_i, ↓wI_rg1, ↓kG2_i, ↓wI_rg2, ↓wS_for, ↓wS_while, ↓kAz_fz, ↓wS_asg, ↓kL_nx, ↓kL_bk, ↓kL_rt, ↓wE_comp, ↓wU_nil, ↓wU_io, ↓wU_val, ↓kFn_fz, ↓kFn_fr, ↓kFn_nx, ↓wM_append, ↓wM_pop, ↓wM_rev, ↓wM_ins, ↓wM_popAt, ↓kMt_own, ↓kMt_io, ↓wE_mut, ↓wE_mut0, ↓kSi_i, ↓kSo_fz, ↓wS_store, pl_1, pl_2, wipe_1, wipe_2, unw_1, unw_2, List.getD_cons_zero, List.getD_cons_succ, List.set_cons_zero, List.set_cons_succ, List.cons_append, List.nil_append, List.replicate_succ, List.replicate_zero, Nat.reduceSub, Nat.reduceAdd, Nat.reduceLT, plain_no, plain_val, plain_ov, Int.natCast_zero, Int.ofNat_zero, Int.cast_ofNat_Int, decide_eq_true_eq, decide_eq_false_iff_not, Bool.not_eq_true', Bool.not_eq_false', Bool.not_true, Bool.not_false, if_true, if_false, true_and, and_true, forall_const, decide_true, decide_false, Int.toNat_natCast, Int.reduceEq, Int.reduceNe, Int.reduceLT, Int.reduceLE, Int.zero_add, implies_true, true_implies, not_true_eq_false, not_false_eq_true, false_implies, false_and, and_false, reduceCtorEq, ite_true, ite_false, eq_self, List.length_cons, List.length_nil, ↓w_isi_bool_none, ↓w_isi_bool_bool, ↓w_isi_bool_int, ↓w_isi_bool_str, ↓w_isi_bool_tuple, ↓w_isi_bool_list, ↓w_isi_int_none, ↓w_isi_int_bool, ↓w_isi_int_int, ↓w_isi_int_str, ↓w_isi_int_tuple, ↓w_isi_int_list, ↓w_isi_str_none, ↓w_isi_str_bool, ↓w_isi_str_int, ↓w_isi_str_str, ↓w_isi_str_tuple, ↓w_isi_str_list, ↓w_isi_tuple_none, ↓w_isi_tuple_bool, ↓w_isi_tuple_int, ↓w_isi_tuple_str, ↓w_isi_tuple_tuple, ↓w_isi_tuple_list, ↓w_isi_list_none, ↓w_isi_list_bool, ↓w_isi_list_int, ↓w_isi_list_str, ↓w_isi_list_tuple, ↓w_isi_list_list, ↓w_isN_none, ↓w_isN_bool, ↓w_isN_int, ↓w_isN_str, ↓w_isN_tuple, w_eqb, beq_self_eq_true]
    | int i => simp only [↓wO_some, ↓wO_none, ↓wSl_0, ↓wSl_s, ↓wP_0, ↓wP_s, ↓kW_no, ↓kW_val, ↓kW_own, ↓kW_ov, ↓wO_setSlot, ↓wE_C, ↓kB_val, ↓kB_own, ↓kB_io, ↓wE_B, ↓kV_val, ↓kV_own, ↓wE_V, ↓kM_val, ↓kM_own, ↓wE_M, ↓kF_fz, ↓kF_bw, ↓kF_fr, ↓wE_F, ↓wR_fz, ↓kCt_val, ↓kCt_own, ↓kCt_io, ↓wR_bw, ↓wE_bin, ↓wE_un, ↓wA_nil, ↓kA_fz, ↓kA_bw, ↓kA_fr, ↓wA_cons, ↓wRs_nil, ↓wRs_cons, ↓wE_args, ↓wZ_nil, ↓wZ_cons, ↓kSz_0, ↓kSz_1, ↓kSz_2, ↓kSz_3, ↓kSz_4, ↓kSz_5, ↓kSz_6, ↓kSz_7, ↓kSz_8, ↓wE_tup, ↓wE_lst, ↓kT_bool, ↓wT_tst, ↓wT_and, ↓wT_or, ↓wT_not, ↓wT_yes, ↓wE_bool, ↓wE_if, ↓kAs_val, ↓kAs_own, ↓kAs_io, ↓wAs_nil, ↓wAs_fz, ↓wAs_bw, ↓kOut_nil, ↓kOut_nilr, ↓kPut_own, ↓kPut_io, ↓kOut_one, ↓kOut_oner, ↓wE_call, ↓w_add, ↓w_sub, ↓w_mul, ↓w_mulI, ↓w_fdiv, ↓w_mod, ↓w_neg, ↓w_lt, ↓w_le, ↓w_gt, ↓w_ge, ↓w_eq, ↓w_ne, ↓w_abs, ↓w_min2, ↓w_max2, ↓w_int, ↓w_intb, ↓w_pow, ↓w_lenL, ↓w_lenT, ↓w_ixL, ↓w_ixT, ↓w_tupL, ↓w_tupT, ↓w_listL, ↓w_listT, ↓kS_nx, ↓kS_bk, ↓kS_rt, ↓wS_nx, ↓wS_bk, ↓wS_seq, ↓kSt_fz, ↓kSt_fr, ↓wS_set, ↓kR_fz, ↓kR_fr, ↓wS_ret, ↓wS_retN, ↓wS_drop, ↓wS_if, ↓kAg_val, ↓wS_aug, ↓wG_N, ↓wG_T, ↓wGs_nil, ↓wGs_cons, ↓kIt_L, ↓kIt_T, ↓wI_seq, ↓kG1_i, ↓wI_rg1, ↓kG2_i, ↓wI_rg2, ↓wS_for, ↓wS_while, ↓kAz_fz, ↓wS_asg, ↓kL_nx, ↓kL_bk, ↓kL_rt, ↓wE_comp, ↓wU_nil, ↓wU_io, ↓wU_val, ↓kFn_fz, ↓kFn_fr, ↓kFn_nx, ↓wM_append, ↓wM_pop, ↓wM_rev, ↓wM_ins, ↓wM_popAt, ↓kMt_own, ↓kMt_io, ↓wE_mut, ↓wE_mut0, ↓kSi_i, ↓kSo_fz, ↓wS_store, pl_1, pl_2, wipe_1, wipe_2, unw_1, unw_2, List.getD_cons_zero, List.getD_cons_succ, List.set_cons_zero, List.set_cons_succ, List.cons_append, List.nil_append, List.replicate_succ, List.replicate_zero, Nat.reduceSub, Nat.reduceAdd, Nat.reduceLT, plain_no, plain_val, plain_ov, Int.natCast_zero, Int.ofNat_zero, Int.cast_ofNat_Int, decide_eq_true_eq, decide_eq_false_iff_not, Bool.not_eq_true', Bool.not_eq_false', Bool.not_true, Bool.not_false, if_true, if_false, true_and, and_true, forall_const, decide_true, decide_false, Int.toNat_natCast, Int.reduceEq, Int.reduceNe, Int.reduceLT, Int.reduceLE, Int.zero_add, implies_true, true_implies, not_true_eq_false, not_false_eq_true, false_implies, false_and, and_false, reduceCtorEq, ite_true, ite_false, eq_self, List.length_cons, List.length_nil, ↓w_isi_bool_none, ↓w_isi_bool_bool, ↓w_isi_bool_int, ↓w_isi_bool_str, ↓w_isi_bool_tuple, ↓w_isi_bool_list, ↓w_isi_int_none, ↓w_isi_int_bool, ↓w_isi_int_int, ↓w_isi_int_str, ↓w_isi_int_tuple, ↓w_isi_int_list, ↓w_isi_str_none, ↓w_isi_str_bool, ↓w_isi_str_int, ↓w_isi_str_str, ↓w_isi_str_tuple, ↓w_isi_str_list, ↓w_isi_tuple_none, ↓w_isi_tuple_bool, ↓w_isi_tuple_int, ↓w_isi_tuple_str, ↓w_isi_tuple_tuple, ↓w_isi_tuple_list, ↓w_isi_list_none, ↓w_isi_list_bool, ↓w_isi_list_int, ↓w_isi_list_str, ↓w_isi_list_tuple, ↓w_isi_list_list, ↓w_isN_none, ↓w_isN_bool, ↓w_isN_int, ↓w_isN_str, ↓w_isN_tuple]
    | str h => simp only [↓wO_some, ↓wO_none, ↓wSl_0, ↓wSl_s, ↓wP_0, ↓wP_s, ↓kW_no, ↓kW_val, ↓kW_own, ↓kW_ov, ↓wO_setSlot, ↓wE_C, ↓kB_val, ↓kB_own, ↓kB_io, ↓wE_B, ↓kV_val, ↓kV_own, ↓wE_V, ↓kM_val, ↓kM_own, ↓wE_M, ↓kF_fz, ↓kF_bw, ↓kF_fr, ↓wE_F, ↓wR_fz, ↓kCt_val, ↓kCt_own, ↓kCt_io, ↓wR_bw, ↓wE_bin, ↓wE_un, ↓wA_nil, ↓kA_fz, ↓kA_bw, ↓kA_fr, ↓wA_cons, ↓wRs_nil, ↓wRs_cons, ↓wE_args, ↓wZ_nil, ↓wZ_cons, ↓kSz_0, ↓kSz_1, ↓kSz_2, ↓kSz_3, ↓kSz_4, ↓kSz_5, ↓kSz_6, ↓kSz_7, ↓kSz_8, ↓wE_tup, ↓wE_lst, ↓kT_bool, ↓wT_tst, ↓wT_and, ↓wT_or, ↓wT_not, ↓wT_yes, ↓wE_bool, ↓wE_if, ↓kAs_val, ↓kAs_own, ↓kAs_io, ↓wAs_nil, ↓wAs_fz, ↓wAs_bw, ↓kOut_nil, ↓kOut_nilr, ↓kPut_own, ↓kPut_io, ↓kOut_one, ↓kOut_oner, ↓wE_call, ↓w_add, ↓w_sub, ↓w_mul, ↓w_mulI, ↓w_fdiv, ↓w_mod, ↓w_neg, ↓w_lt, ↓w_le, ↓w_gt, ↓w_ge, ↓w_eq, ↓w_ne, ↓w_abs, ↓w_min2, ↓w_max2, ↓w_int, ↓w_intb, ↓w_pow, ↓w_lenL, ↓w_lenT, ↓w_ixL, ↓w_ixT, ↓w_tupL, ↓w_tupT, ↓w_listL, ↓w_listT, ↓kS_nx, ↓kS_bk, ↓kS_rt, ↓wS_nx, ↓wS_bk, ↓wS_seq, ↓kSt_fz, ↓kSt_fr, ↓wS_set, ↓kR_fz, ↓kR_fr, ↓wS_ret, ↓wS_retN, ↓wS_drop, ↓wS_if, ↓kAg_val, ↓wS_aug, ↓wG_N, ↓wG_T, ↓wGs_nil, ↓wGs_cons, ↓kIt_L, ↓kIt_T, ↓wI_seq, ↓kG1_i, ↓wI_rg1, ↓kG2_i, ↓wI_rg2, ↓wS_for, ↓wS_while, ↓kAz_fz, ↓wS_asg, ↓kL_nx, ↓kL_bk, ↓kL_rt, ↓wE_comp, ↓wU_nil, ↓wU_io, ↓wU_val, ↓kFn_fz, ↓kFn_fr, ↓kFn_nx, ↓wM_append, ↓wM_pop, ↓wM_rev, ↓wM_ins, ↓wM_popAt, ↓kMt_own, ↓kMt_io, ↓wE_mut, ↓wE_mut0, ↓kSi_i, ↓kSo_fz, ↓wS_store, pl_1, pl_2, wipe_1, wipe_2, unw_1, unw_2, List.getD_cons_zero, List.getD_cons_succ, List.set_cons_zero, List.set_cons_succ, List.cons_append, List.nil_append, List.replicate_succ, List.replicate_zero, Nat.reduceSub, Nat.reduceAdd, Nat.reduceLT, plain_no, plain_val, plain_ov, Int.natCast_zero, Int.ofNat_zero, Int.cast_ofNat_Int, decide_eq_true_eq, decide_eq_false_iff_not, Bool.not_eq_true', Bool.not_eq_false', Bool.not_true, Bool.not_false, if_true, if_false, true_and, and_true, forall_const, decide_true, decide_false, Int.toNat_natCast, Int.reduceEq, Int.reduceNe, Int.reduceLT, Int.reduceLE, Int.zero_add, implies_true, true_implies, not_true_eq_false, not_false_eq_true, false_implies, false_and, and_false, reduceCtorEq, ite_true, ite_false, eq_self, List.length_cons, List.length_nil, ↓w_isi_bool_none, ↓w_isi_bool_bool, ↓w_isi_bool_int, ↓w_isi_bool_str, ↓w_isi_bool_tuple, ↓w_isi_bool_list, ↓w_isi_int_none, ↓w_isi_int_bool, ↓w_isi_int_int, ↓w_isi_int_str, ↓w_isi_int_tuple, ↓w_isi_int_list, ↓w_isi_str_none, ↓w_isi_str_bool, ↓w_isi_str_int, ↓w_isi_str_str, ↓w_isi_str_tuple, ↓w_isi_str_list, ↓w_isi_tuple_none, ↓w_isi_tuple_bool, ↓w_isi_tuple_int, ↓w_isi_tuple_str, ↓w_isi_tuple_tuple, ↓w_isi_tuple_list, ↓w_isi_list_none, ↓w_isi_list_bool, ↓w_isi_list_int, ↓w_isi_list_str, ↓w_isi_list_tuple, ↓w_isi_list_list, ↓w_isN_none, ↓w_isN_bool, ↓w_isN_int, ↓w_isN_str, ↓w_isN_tuple, w_eqs, h, Bool.and_self, beq_self_eq_true]
    | @tuple _ ds hl hd =>
      simp only [↓wO_some, ↓wO_none, ↓wSl_0, ↓wSl_s, ↓wP_0, ↓wP_s, ↓kW_no, ↓kW_val, ↓kW_own, ↓kW_ov, ↓wO_setSlot, ↓wE_C, ↓kB_val, ↓kB_own, ↓kB_io, ↓wE_B, ↓kV_val, ↓kV_own, ↓wE_V, ↓kM_val, ↓kM_own, ↓wE_M, ↓kF_fz, ↓kF_bw, ↓kF_fr, ↓wE_F, ↓wR_fz, ↓kCt_val, ↓kCt_own, ↓kCt_io, ↓wR_bw, ↓wE_bin, ↓wE_un, ↓wA_nil, ↓kA_fz, ↓kA_bw, ↓kA_fr, ↓wA_cons, ↓wRs_nil, ↓wRs_cons, ↓wE_args, ↓wZ_nil, ↓wZ_cons, ↓kSz_0, ↓kSz_1, ↓kSz_2, ↓kSz_3, ↓kSz_4, ↓kSz_5, ↓kSz_6, ↓kSz_7, ↓kSz_8, ↓wE_tup, ↓wE_lst, ↓kT_bool, ↓wT_tst, ↓wT_and, ↓wT_or, ↓wT_not, ↓wT_yes, ↓wE_bool, ↓wE_if, ↓kAs_val, ↓kAs_own, ↓kAs_io, ↓wAs_nil, ↓wAs_fz, ↓wAs_bw, ↓kOut_nil, ↓kOut_nilr, ↓kPut_own, ↓kPut_io, ↓kOut_one, ↓kOut_oner, ↓wE_call, ↓w_add, ↓w_sub, ↓w_mul, ↓w_mulI, ↓w_fdiv, ↓w_mod, ↓w_neg, ↓w_lt, ↓w_le, ↓w_gt, ↓w_ge, ↓w_eq, ↓w_ne, ↓w_abs, ↓w_min2, ↓w_max2, ↓w_int, ↓w_intb, ↓w_pow, ↓w_lenL, ↓w_lenT, ↓w_ixL, ↓w_ixT, ↓w_tupL, ↓w_tupT, ↓w_listL, ↓w_listT, ↓kS_nx, ↓kS_bk, ↓kS_rt, ↓wS_nx, ↓wS_bk, ↓wS_seq, ↓kSt_fz, ↓kSt_fr, ↓wS_set, ↓kR_fz, ↓kR_fr, ↓wS_ret, ↓wS_retN, ↓wS_drop, ↓wS_if, ↓kAg_val, ↓wS_aug, ↓wG_N, ↓wG_T, ↓wGs_nil, ↓wGs_cons, ↓kIt_L, ↓kIt_T, ↓wI_seq, ↓kG1_i, ↓wI_rg1, ↓kG2_i, ↓wI_rg2, ↓wS_for, ↓wS_while, ↓kAz_fz, ↓wS_asg, ↓kL_nx, ↓kL_bk, ↓kL_rt, ↓wE_comp, ↓wU_nil, ↓wU_io, ↓wU_val, ↓kFn_fz, ↓kFn_fr, ↓kFn_nx, ↓wM_append, ↓wM_pop, ↓wM_rev, ↓wM_ins, ↓wM_popAt, ↓kMt_own, ↓kMt_io, ↓wE_mut, ↓wE_mut0, ↓kSi_i, ↓kSo_fz, ↓wS_store, pl_1, pl_2, wipe_1, wipe_2, unw_1, unw_2, List.getD_cons_zero, List.getD_cons_succ, List.set_cons_zero, List.set_cons_succ, List.cons_append, List.nil_append, List.replicate_succ, List.replicate_zero, Nat.reduceSub, Nat.reduceAdd, Nat.reduceLT, plain_no, plain_val, plain_ov, Int.natCast_zero, Int.ofNat_zero, Int.cast_ofNat_Int, decide_eq_true_eq, decide_eq_false_iff_not, Bool.not_eq_true', Bool.not_eq_false', Bool.not_true, Bool.not_false, if_true, if_false, true_and, and_true, forall_const, decide_true, decide_false, Int.toNat_natCast, Int.reduceEq, Int.reduceNe, Int.reduceLT, Int.reduceLE, Int.zero_add, implies_true, true_implies, not_true_eq_false, not_false_eq_true, false_implies, false_and, and_false, reduceCtorEq, ite_true, ite_false, eq_self, List.length_cons, List.length_nil, ↓w_isi_bool_none, ↓w_isi_bool_bool, ↓w_isi_bool_int, ↓w_isi_bool_str, ↓w_isi_bool_tuple, ↓w_isi_bool_list, ↓w_isi_int_none, ↓w_isi_int_bool, ↓w_isi_int_int, ↓w_isi_int_str, ↓w_isi_int_tuple, ↓w_isi_int_list, ↓w_isi_str_none, ↓w_isi_str_bool, ↓w_isi_str_int, ↓w_isi_str_str, ↓w_isi_str_tuple, ↓w_isi_str_list, ↓w_isi_tuple_none, ↓w_isi_tuple_bool, ↓w_isi_tuple_int, ↓w_isi_tuple_str, ↓w_isi_tuple_tuple, ↓w_isi_tuple_list, ↓w_isi_list_none, ↓w_isi_list_bool, ↓w_isi_list_int, ↓w_isi_list_str, ↓w_isi_list_tuple, ↓w_isi_list_list, ↓w_isN_none, ↓w_isN_bool, ↓w_isN_int, ↓w_isN_str, ↓w_isN_tuple]
      refine wL_range (fun k ρ => ∃ o, ρ = [.val (.tuple ds), .val (.tuple ds), ov o]) ⟨none, rfl⟩ ?_ ?_
      · rintro i _ hi ⟨o, rfl⟩
        have e := atD_nat (List.getElem?_eq_getElem hi)
        have := ih ds[i] (hd _ (List.getElem_mem hi))
        simp only [↓wO_some, ↓wO_none, ↓wSl_0, ↓wSl_s, ↓wP_0, ↓wP_s, ↓kW_no, ↓kW_val, ↓kW_own, ↓kW_ov, ↓wO_setSlot, ↓wE_C, ↓kB_val, ↓kB_own, ↓kB_io, ↓wE_B, ↓kV_val, ↓kV_own, ↓wE_V, ↓kM_val, ↓kM_own, ↓wE_M, ↓kF_fz, ↓kF_bw, ↓kF_fr, ↓wE_F, ↓wR_fz, ↓kCt_val, ↓kCt_own, ↓kCt_io, ↓wR_bw, ↓wE_bin, ↓wE_un, ↓wA_nil, ↓kA_fz, ↓kA_bw, ↓kA_fr, ↓wA_cons, ↓wRs_nil, ↓wRs_cons, ↓wE_args, ↓wZ_nil, ↓wZ_cons, ↓kSz_0, ↓kSz_1, ↓kSz_2, ↓kSz_3, ↓kSz_4, ↓kSz_5, ↓kSz_6, ↓kSz_7, ↓kSz_8, ↓wE_tup, ↓wE_lst, ↓kT_bool, ↓wT_tst, ↓wT_and, ↓wT_or, ↓wT_not, ↓wT_yes, ↓wE_bool, ↓wE_if, ↓kAs_val, ↓kAs_own, ↓kAs_io, ↓wAs_nil, ↓wAs_fz, ↓wAs_bw, ↓kOut_nil, ↓kOut_nilr, ↓kPut_own, ↓kPut_io, ↓kOut_one, ↓kOut_oner, ↓wE_call, ↓w_add, ↓w_sub, ↓w_mul, ↓w_mulI, ↓w_fdiv, ↓w_mod, ↓w_neg, ↓w_lt, ↓w_le, ↓w_gt, ↓w_ge, ↓w_eq, ↓w_ne, ↓w_abs, ↓w_min2, ↓w_max2, ↓w_int, ↓w_intb, ↓w_pow, ↓w_lenL, ↓w_lenT, ↓w_ixL, ↓w_ixT, ↓w_tupL, ↓w_tupT, ↓w_listL, ↓w_listT, ↓kS_nx, ↓kS_bk, ↓kS_rt, ↓wS_nx, ↓wS_bk, ↓wS_seq, ↓kSt_fz, ↓kSt_fr, ↓wS_set, ↓kR_fz, ↓kR_fr, ↓wS_ret, ↓wS_retN, ↓wS_drop, ↓wS_if, ↓kAg_val, ↓wS_aug, ↓wG_N, ↓wG_T, ↓wGs_nil, ↓wGs_cons, ↓kIt_L, ↓kIt_T, ↓wI_seq, ↓kG1_i, ↓wI_rg1, ↓kG2_i, ↓wI_rg2, ↓wS_for, ↓wS_while, ↓kAz_fz, ↓wS_asg, ↓kL_nx, ↓kL_bk, ↓kL_rt, ↓wE_comp, ↓wU_nil, ↓wU_io, ↓wU_val, ↓kFn_fz, ↓kFn_fr, ↓kFn_nx, ↓wM_append, ↓wM_pop, ↓wM_rev, ↓wM_ins, ↓wM_popAt, ↓kMt_own, ↓kMt_io, ↓wE_mut, ↓wE_mut0, ↓kSi_i, ↓kSo_fz, ↓wS_store, pl_1, pl_2, wipe_1, wipe_2, unw_1, unw_2, List.getD_cons_zero, List.getD_cons_succ, List.set_cons_zero, List.set_cons_succ, List.cons_append, List.nil_append, List.replicate_succ, List.replicate_zero, Nat.reduceSub, Nat.reduceAdd, Nat.reduceLT, plain_no, plain_val, plain_ov, Int.natCast_zero, Int.ofNat_zero, Int.cast_ofNat_Int, decide_eq_true_eq, decide_eq_false_iff_not, Bool.not_eq_true', Bool.not_eq_false', Bool.not_true, Bool.not_false, if_true, if_false, true_and, and_true, forall_const, decide_true, decide_false, Int.toNat_natCast, Int.reduceEq, Int.reduceNe, Int.reduceLT, Int.reduceLE, Int.zero_add, implies_true, true_implies, not_true_eq_false, not_false_eq_true, false_implies, false_and, and_false, reduceCtorEq, ite_true, ite_false, eq_self, List.length_cons, List.length_nil, Int.zero_add, e, this]
        exact ⟨some _, rfl⟩
      · rintro _ ⟨o, rfl⟩
        simp only [↓wO_some, ↓wO_none, ↓wSl_0, ↓wSl_s, ↓wP_0, ↓wP_s, ↓kW_no, ↓kW_val, ↓kW_own, ↓kW_ov, ↓wO_setSlot, ↓wE_C, ↓kB_val, ↓kB_own, ↓kB_io, ↓wE_B, ↓kV_val, ↓kV_own, ↓wE_V, ↓kM_val, ↓kM_own, ↓wE_M, ↓kF_fz, ↓kF_bw, ↓kF_fr, ↓wE_F, ↓wR_fz, ↓kCt_val, ↓kCt_own, ↓kCt_io, ↓wR_bw, ↓wE_bin, ↓wE_un, ↓wA_nil, ↓kA_fz, ↓kA_bw, ↓kA_fr, ↓wA_cons, ↓wRs_nil, ↓wRs_cons, ↓wE_args, ↓wZ_nil, ↓wZ_cons, ↓kSz_0, ↓kSz_1, ↓kSz_2, ↓kSz_3, ↓kSz_4, ↓kSz_5, ↓kSz_6, ↓kSz_7, ↓kSz_8, ↓wE_tup, ↓wE_lst, ↓kT_bool, ↓wT_tst, ↓wT_and, ↓wT_or, ↓wT_not, ↓wT_yes, ↓wE_bool, ↓wE_if, ↓kAs_val, ↓kAs_own, ↓kAs_io, ↓wAs_nil, ↓wAs_fz, ↓wAs_bw, ↓kOut_nil, ↓kOut_nilr, ↓kPut_own, ↓kPut_io, ↓kOut_one, ↓kOut_oner, ↓wE_call, ↓w_add, ↓w_sub, ↓w_mul, ↓w_mulI, ↓w_fdiv, ↓w_mod, ↓w_neg, ↓w_lt, ↓w_le, ↓w_gt, ↓w_ge, ↓w_eq, ↓w_ne, ↓w_abs, ↓w_min2, ↓w_max2, ↓w_int, ↓w_intb, ↓w_pow, ↓w_lenL, ↓w_lenT, ↓w_ixL, ↓w_ixT, ↓w_tupL, ↓w_tupT, ↓w_listL, ↓w_listT, ↓kS_nx, ↓kS_bk, ↓kS_rt, ↓wS_nx, ↓wS_bk, ↓wS_seq, ↓kSt_fz, ↓kSt_fr, ↓wS_set, ↓kR_fz, ↓kR_fr, ↓wS_ret, ↓wS_retN, ↓wS_drop, ↓wS_if, ↓kAg_val, ↓wS_aug, ↓wG_N, ↓wG_T, ↓wGs_nil, ↓wGs_cons, ↓kIt_L, ↓kIt_T, ↓wI_seq, ↓kG1_i, ↓wI_rg1, ↓kG2_i, ↓wI_rg2, ↓wS_for, ↓wS_while, ↓kAz_fz, ↓wS_asg, ↓kL_nx, ↓kL_bk, ↓kL_rt, ↓wE_comp, ↓wU_nil, ↓wU_io, ↓wU_val, ↓kFn_fz, ↓kFn_fr, ↓kFn_nx, ↓wM_append, ↓wM_pop, ↓wM_rev, ↓wM_ins, ↓wM_popAt, ↓kMt_own, ↓kMt_io, ↓wE_mut, ↓wE_mut0, ↓kSi_i, ↓kSo_fz, ↓wS_store, pl_1, pl_2, wipe_1, wipe_2, unw_1, unw_2, List.getD_cons_zero, List.getD_cons_succ, List.set_cons_zero, List.set_cons_succ, List.cons_append, List.nil_append, List.replicate_succ, List.replicate_zero, Nat.reduceSub, Nat.reduceAdd, Nat.reduceLT, plain_no, plain_val, plain_ov, Int.natCast_zero, Int.ofNat_zero, Int.cast_ofNat_Int, decide_eq_true_eq, decide_eq_false_iff_not, Bool.not_eq_true', Bool.not_eq_false', Bool.not_true, Bool.not_false, if_true, if_false, true_and, and_true, forall_const, decide_true, decide_false, Int.toNat_natCast, Int.reduceEq, Int.reduceNe, Int.reduceLT, Int.reduceLE, Int.zero_add, implies_true, true_implies, not_true_eq_false, not_false_eq_true, false_implies, false_and, and_false, reduceCtorEq, ite_true, ite_false, eq_self, List.length_cons, List.length_nil]
theorem sameB_refl : ∀ (n : Nat) (a : D), Pl n a → R_sameB (n + 1) [.val a, .val a] = some (.fz (.bool true), []) := by
  intro n
  induction n with
  | zero =>
    intro a h
    refine eq_of_wO (wO_fn rfl ?_)
    unfold B_sameB
    cases h with
    | none => simp only [↓wO_some, ↓wO_none, ↓wSl_0, ↓wSl_s, ↓wP_0, ↓wP_s, ↓kW_no, ↓kW_val, ↓kW_own, ↓kW_ov, ↓wO_setSlot, ↓wE_C, ↓kB_val, ↓kB_own, ↓kB_io, ↓wE_B, ↓kV_val, ↓kV_own, ↓wE_V, ↓kM_val, ↓kM_own, ↓wE_M, ↓kF_fz, ↓kF_bw, ↓kF_fr, ↓wE_F, ↓wR_fz, ↓kCt_val, ↓kCt_own, ↓kCt_io, ↓wR_bw, ↓wE_bin, ↓wE_un, ↓wA_nil, ↓kA_fz, ↓kA_bw, ↓kA_fr, ↓wA_cons, ↓wRs_nil, ↓wRs_cons, ↓wE_args, ↓wZ_nil, ↓wZ_cons, ↓kSz_0, ↓kSz_1, ↓kSz_2, ↓kSz_3, ↓kSz_4, ↓kSz_5, ↓kSz_6, ↓kSz_7, ↓kSz_8, ↓wE_tup, ↓wE_lst, ↓kT_bool, ↓wT_tst, ↓wT_and, ↓wT_or, ↓wT_not, ↓wT_yes, ↓wE_bool, ↓wE_if, ↓kAs_val, ↓kAs_own, ↓kAs_io, ↓wAs_nil, ↓wAs_fz, ↓wAs_bw, ↓kOut_nil, ↓kOut_nilr, ↓kPut_own, ↓kPut_io, ↓kOut_one, ↓kOut_oner, ↓wE_call, ↓w_add, ↓w_sub, ↓w_mul, ↓w_mulI, ↓w_fdiv, ↓w_mod, ↓w_neg, ↓w_lt, ↓w_le, ↓w_gt, ↓w_ge, ↓w_eq, ↓w_ne, ↓w_abs, ↓w_min2, ↓w_max2, ↓w_int, ↓w_intb, ↓w_pow, ↓w_lenL, ↓w_lenT, ↓w_ixL, ↓w_ixT, ↓w_tupL, ↓w_tupT, ↓w_listL, ↓w_listT, ↓kS_nx, ↓kS_bk, ↓kS_rt, ↓wS_nx, ↓wS_bk, ↓wS_seq, ↓kSt_fz, ↓kSt_fr, ↓wS_set, ↓kR_fz, ↓kR_fr, ↓wS_ret, ↓wS_retN, ↓wS_drop, ↓wS_if, ↓kAg_val, ↓wS_aug, ↓wG_N, ↓wG_T, ↓wGs_nil, ↓wGs_cons, ↓kIt_L, ↓kIt_T, ↓wI_seq, ↓kG1_i, ↓wI_rg1, ↓kG2_i, ↓wI_rg2, ↓wS_for, ↓wS_while, ↓kAz_fz, ↓wS_asg, ↓kL_nx, ↓kL_bk, ↓kL_rt, ↓wE_comp, ↓wU_nil, ↓wU_io, ↓wU_val, ↓kFn_fz, ↓kFn_fr, ↓kFn_nx, ↓wM_append, ↓wM_pop, ↓wM_rev, ↓wM_ins, ↓wM_popAt, ↓kMt_own, ↓kMt_io, ↓wE_mut, ↓wE_mut0, ↓kSi_i, ↓kSo_fz, ↓wS_store, pl_1, pl_2, wipe_1, wipe_2, unw_1, unw_2, List.getD_cons_zero, List.getD_cons_succ, List.set_cons_zero, List.set_cons_succ, List.cons_append, List.nil_append, List.replicate_succ, List.replicate_zero, Nat.reduceSub, Nat.reduceAdd, Nat.reduceLT, plain_no, plain_val, plain_ov, Int.natCast_zero, Int.ofNat_zero, Int.cast_ofNat_Int, decide_eq_true_eq, decide_eq_false_iff_not, Bool.not_eq_true', Bool.not_eq_false', Bool.not_true, Bool.not_false, if_true, if_false, true_and, and_true, forall_const, decide_true, decide_false, Int.toNat_natCast, Int.reduceEq, Int.reduceNe, Int.reduceLT, Int.reduceLE, Int.zero_add, implies_true, true_implies, not_true_eq_false, not_false_eq_true, false_implies, false_and, and_false, reduceCtorEq, ite_true, ite_false, eq_self, List.length_cons, List.length_nil, ↓w_isi_bool_none, ↓w_isi_bool_bool, ↓w_isi_bool_int, ↓w_isi_bool_str, ↓w_isi_bool_tuple, ↓w_isi_bool_list, ↓w_isi_int_none, ↓w_isi_int_bool, ↓w_isi_int_int, ↓w_isi_int_str, ↓w_isi_int_tuple, ↓w_isi_int_list, ↓w_isi_str_none, ↓w_isi_str_bool, ↓w_isi_str_int, ↓w_isi_str_str, ↓w_isi_str_tuple, ↓w_isi_str_list, ↓w_isi_tuple_none, ↓w_isi_tuple_bool, ↓w_isi_tuple_int, ↓w_isi_tuple_str, ↓w_isi_tuple_tuple, ↓w_isi_tuple_list, ↓w_isi_list_none, ↓w_isi_list_bool, ↓w_isi_list_int, ↓w_isi_list_str, ↓w_isi_list_tuple, ↓w_isi_list_list, ↓w_isN_none, ↓w_isN_bool, ↓w_isN_int, ↓w_isN_str, ↓w_isN_tuple]
    | bool b => simp only [↓wO_some, ↓wO_none, ↓wSl_0, ↓wSl_s, ↓wP_0, ↓wP_s, ↓kW_no, ↓kW_val, ↓kW_own, ↓kW_ov, ↓wO_setSlot, ↓wE_C, ↓kB_val, ↓kB_own, ↓kB_io, ↓wE_B, ↓kV_val, ↓kV_own, ↓wE_V, ↓kM_val, ↓kM_own, ↓wE_M, ↓kF_fz, ↓kF_bw, ↓kF_fr, ↓wE_F, ↓wR_fz, ↓kCt_val, ↓kCt_own, ↓kCt_io, ↓wR_bw, ↓wE_bin, ↓wE_un, ↓wA_nil, ↓kA_fz, ↓kA_bw, ↓kA_fr, ↓wA_cons, ↓wRs_nil, ↓wRs_cons, ↓wE_args, ↓wZ_nil, ↓wZ_cons, ↓kSz_0, ↓kSz_1, ↓kSz_2, ↓kSz_3, ↓kSz_4, ↓kSz_5, ↓kSz_6, ↓kSz_7, ↓kSz_8, ↓wE_tup, ↓wE_lst, ↓kT_bool, ↓wT_tst, ↓wT_and, ↓wT_or, ↓wT_not, ↓wT_yes, ↓wE_bool, ↓wE_if, ↓kAs_val, ↓kAs_own, ↓kAs_io, ↓wAs_nil, ↓wAs_fz, ↓wAs_bw, ↓kOut_nil, ↓kOut_nilr, ↓kPut_own, ↓kPut_io, ↓kOut_one, ↓kOut_oner, ↓wE_call, ↓w_add, ↓w_sub, ↓w_mul, ↓w_mulI, ↓w_fdiv, ↓w_mod, ↓w_neg, ↓w_lt, ↓w_le, ↓w_gt, ↓w_ge, ↓w_eq, ↓w_ne, ↓w_abs, ↓w_min2, ↓w_max2, ↓w_int, ↓w_intb, ↓w_pow, ↓w_lenL, ↓w_lenT, ↓w_ixL, ↓w_ixT, ↓w_tupL, ↓w_tupT, ↓w_listL, ↓w_listT, ↓kS_nx, ↓kS_bk, ↓kS_rt, ↓wS_nx, ↓wS_bk, ↓wS_seq, ↓kSt_fz, ↓kSt_fr, ↓wS_set, ↓kR_fz, ↓kR_fr, ↓wS_ret, ↓wS_retN, ↓wS_drop, ↓wS_if, ↓kAg_val, ↓wS_aug, ↓wG_N, ↓wG_T, ↓wGs_nil, ↓wGs_cons, ↓kIt_L, ↓kIt_T, ↓wI_seq, ↓kG1_i, ↓wI_rg1, ↓kG2_i, ↓wI_rg2, ↓wS_for, ↓wS_while, ↓kAz_fz, ↓wS_asg, ↓kL_nx, ↓kL_bk, ↓kL_rt, ↓wE_comp, ↓wU_nil, ↓wU_io, ↓wU_val, ↓kFn_fz, ↓kFn_fr, ↓kFn_nx, ↓wM_append, ↓wM_pop, ↓wM_rev, ↓wM_ins, ↓wM_popAt, ↓kMt_own, ↓kMt_io, ↓wE_mut, ↓wE_mut0, ↓kSi_i, ↓kSo_fz, ↓wS_store, pl_1, pl_2, wipe_1, wipe_2, unw_1, unw_2, List.getD_cons_zero, List.getD_cons_succ, List.set_cons_zero, List.set_cons_succ, List.cons_append, List.nil_append, List.replicate_succ, List.replicate_zero, Nat.reduceSub, Nat.reduceAdd, Nat.reduceLT, plain_no, plain_val, plain_ov, Int.natCast_zero, Int.ofNat_zero, Int.cast_ofNat_Int, decide_eq_true_eq, decide_eq_false_iff_not, Bool.not_eq_true', Bool.not_eq_false', Bool.not_true, Bool.not_false, if_true, if_false, true_and, and_true, forall_const, decide_true, decide_false, Int.toNat_natCast, Int.reduceEq, Int.reduceNe, Int.reduceLT, Int.reduceLE, Int.zero_add, implies_true, true_implies, not_true_eq_false, not_false_eq_true, false_implies, false_and, and_false, reduceCtorEq, ite_true, ite_false, eq_self, List.length_cons, List.length_nil, ↓w_isi_bool_none, ↓w_isi_bool_bool, ↓w_isi_bool_int, ↓w_isi_bool_str, ↓w_isi_bool_tuple, ↓w_isi_bool_list, ↓w_isi_int_none, ↓w_isi_int_bool, ↓w_isi_int_int, ↓w_isi_int_str, ↓w_isi_int_tuple, ↓w_isi_int_list, ↓w_isi_str_none, ↓w_isi_str_bool, ↓w_isi_str_int, ↓w_isi_str_str, ↓w_isi_str_tuple, ↓w_isi_str_list, ↓w_isi_tuple_none, ↓w_isi_tuple_bool, ↓w_isi_tuple_int, ↓w_isi_tuple_str, ↓w_isi_tuple_tuple, ↓w_isi_tuple_list, ↓w_isi_list_none, ↓w_isi_list_bool, ↓w_isi_list_int, ↓w_isi_list_str, ↓w_isi_list_tuple, ↓w_isi_list_list, ↓w_isN_none, ↓w_isN_bool, ↓w_isN_int, ↓w_isN_str, ↓w_isN_tuple, w_eqb, beq_self_eq_true]
    | int i => simp only [↓wO_some, ↓wO_none, ↓wSl_0, ↓wSl_s, ↓wP_0, ↓wP_s, ↓kW_no, ↓kW_val, ↓kW_own, ↓kW_ov, ↓wO_setSlot, ↓wE_C, ↓kB_val, ↓kB_own, ↓kB_io, ↓wE_B, ↓kV_val, ↓kV_own, ↓wE_V, ↓kM_val, ↓kM_own, ↓wE_M, ↓kF_fz, ↓kF_bw, ↓kF_fr, ↓wE_F, ↓wR_fz, ↓kCt_val, ↓kCt_own, ↓kCt_io, ↓wR_bw, ↓wE_bin, ↓wE_un, ↓wA_nil, ↓kA_fz, ↓kA_bw, ↓kA_fr, ↓wA_cons, ↓wRs_nil, ↓wRs_cons, ↓wE_args, ↓wZ_nil, ↓wZ_cons, ↓kSz_0, ↓kSz_1, ↓kSz_2, ↓kSz_3, ↓kSz_4, ↓kSz_5, ↓kSz_6, ↓kSz_7, ↓kSz_8, ↓wE_tup, ↓wE_lst, ↓kT_bool, ↓wT_tst, ↓wT_and, ↓wT_or, ↓wT_not, ↓wT_yes, ↓wE_bool, ↓wE_if, ↓kAs_val, ↓kAs_own, ↓kAs_io, ↓wAs_nil, ↓wAs_fz, ↓wAs_bw, ↓kOut_nil, ↓kOut_nilr, ↓kPut_own, ↓kPut_io, ↓kOut_one, ↓kOut_oner, ↓wE_call, ↓w_add, ↓w_sub, ↓w_mul, ↓w_mulI, ↓w_fdiv, ↓w_mod, ↓w_neg, ↓w_lt, ↓w_le, ↓w_gt, ↓w_ge, ↓w_eq, ↓w_ne, ↓w_abs, ↓w_min2, ↓w_max2, ↓w_int, ↓w_intb, ↓w_pow, ↓w_lenL, ↓w_lenT, ↓w_ixL, ↓w_ixT, ↓w_tupL, ↓w_tupT, ↓w_listL, ↓w_listT, ↓kS_nx, ↓kS_bk, ↓kS_rt, ↓wS_nx, ↓wS_bk, ↓wS_seq, ↓kSt_fz, ↓kSt_fr, ↓wS_set, ↓kR_fz, ↓kR_fr, ↓wS_ret, ↓wS_retN, ↓wS_drop, ↓wS_if, ↓kAg_val, ↓wS_aug, ↓wG_N, ↓wG_T, ↓wGs_nil, ↓wGs_cons, ↓kIt_L, ↓kIt_T, ↓wI_seq, ↓kG1_i, ↓wI_rg1, ↓kG2_i, ↓wI_rg2, ↓wS_for, ↓wS_while, ↓kAz_fz, ↓wS_asg, ↓kL_nx, ↓kL_bk, ↓kL_rt, ↓wE_comp, ↓wU_nil, ↓wU_io, ↓wU_val, ↓kFn_fz, ↓kFn_fr, ↓kFn_nx, ↓wM_append, ↓wM_pop, ↓wM_rev, ↓wM_ins, ↓wM_popAt, ↓kMt_own, ↓kMt_io, ↓wE_mut, ↓wE_mut0, ↓kSi_i, ↓kSo_fz, ↓wS_store, pl_1, pl_2, wipe_1, wipe_2, unw_1, unw_2, List.getD_cons_zero, List.getD_cons_succ, List.set_cons_zero, List.set_cons_succ, List.cons_append, List.nil_append, List.replicate_succ, List.replicate_zero, Nat.reduceSub, Nat.reduceAdd, Nat.reduceLT, plain_no, plain_val, plain_ov, Int.natCast_zero, Int.ofNat_zero, Int.cast_ofNat_Int, decide_eq_true_eq, decide_eq_false_iff_not, Bool.not_eq_true', Bool.not_eq_false', Bool.not_true, Bool.not_false, if_true, if_false, true_and, and_true, forall_const, decide_true, decide_false, Int.toNat_natCast, Int.reduceEq, Int.reduceNe, Int.reduceLT, Int.reduceLE, Int.zero_add, implies_true, true_implies, not_true_eq_false, not_false_eq_true, false_implies, false_and, and_false, reduceCtorEq, ite_true, ite_false, eq_self, List.length_cons, List.length_nil, ↓w_isi_bool_none, ↓w_isi_bool_bool, ↓w_isi_bool_int, ↓w_isi_bool_str, ↓w_isi_bool_tuple, ↓w_isi_bool_list, ↓w_isi_int_none, ↓w_isi_int_bool, ↓w_isi_int_int, ↓w_isi_int_str, ↓w_isi_int_tuple, ↓w_isi_int_list, ↓w_isi_str_none, ↓w_isi_str_bool, ↓w_isi_str_int, ↓w_isi_str_str, ↓w_isi_str_tuple, ↓w_isi_str_list, ↓w_isi_tuple_none, ↓w_isi_tuple_bool, ↓w_isi_tuple_int, ↓w_isi_tuple_str, ↓w_isi_tuple_tuple, ↓w_isi_tuple_list, ↓w_isi_list_none, ↓w_isi_list_bool, ↓w_isi_list_int, ↓w_isi_list_str, ↓w_isi_list_tuple, ↓w_isi_list_list, ↓w_isN_none, ↓w_isN_bool, ↓w_isN_int, ↓w_isN_str, ↓w_isN_tuple]
    | str h => simp only [↓wO_some, ↓wO_none, ↓wSl_0, ↓wSl_s, ↓wP_0, ↓wP_s, ↓kW_no, ↓kW_val, ↓kW_own, ↓kW_ov, ↓wO_setSlot, ↓wE_C, ↓kB_val, ↓kB_own, ↓kB_io, ↓wE_B, ↓kV_val, ↓kV_own, ↓wE_V, ↓kM_val, ↓kM_own, ↓wE_M, ↓kF_fz, ↓kF_bw, ↓kF_fr, ↓wE_F, ↓wR_fz, ↓kCt_val, ↓kCt_own, ↓kCt_io, ↓wR_bw, ↓wE_bin, ↓wE_un, ↓wA_nil, ↓kA_fz, ↓kA_bw, ↓kA_fr, ↓wA_cons, ↓wRs_nil, ↓wRs_cons, ↓wE_args, ↓wZ_nil, ↓wZ_cons, ↓kSz_0, ↓kSz_1, ↓kSz_2, ↓kSz_3, ↓kSz_4, ↓kSz_5, ↓kSz_6, ↓kSz_7, ↓kSz_8, ↓wE_tup, ↓wE_lst, ↓kT_bool, ↓wT_tst, ↓wT_and, ↓wT_or, ↓wT_not, ↓wT_yes, ↓wE_bool, ↓wE_if, ↓kAs_val, ↓kAs_own, ↓kAs_io, ↓wAs_nil, ↓wAs_fz, ↓wAs_bw, ↓kOut_nil, ↓kOut_nilr, ↓kPut_own, ↓kPut_io, ↓kOut_one, ↓kOut_oner, ↓wE_call, ↓w_add, ↓w_sub, ↓w_mul, ↓w_mulI, ↓w_fdiv, ↓w_mod, ↓w_neg, ↓w_lt, ↓w_le, ↓w_gt, ↓w_ge, ↓w_eq, ↓w_ne, ↓w_abs, ↓w_min2, ↓w_max2, ↓w_int, ↓w_intb, ↓w_pow, ↓w_lenL, ↓w_lenT, ↓w_ixL, ↓w_ixT, ↓w_tupL, ↓w_tupT, ↓w_listL, ↓w_listT, ↓kS_nx, ↓kS_bk, ↓kS_rt, ↓wS_nx, ↓wS_bk, ↓wS_seq, ↓kSt_fz, ↓kSt_fr, ↓wS_set, ↓kR_fz, ↓kR_fr, ↓wS_ret, ↓wS_retN, ↓wS_drop, ↓wS_if, ↓kAg_val, ↓wS_aug, ↓wG_N, ↓wG_T, ↓wGs_nil, ↓wGs_cons, ↓kIt_L, ↓kIt_T, ↓wI_seq, ↓kG1_i, ↓wI_rg1, ↓kG2_i, ↓wI_rg2, ↓wS_for, ↓wS_while, ↓kAz_fz, ↓wS_asg, ↓kL_nx, ↓kL_bk, ↓kL_rt, ↓wE_comp, ↓wU_nil, ↓wU_io, ↓wU_val, ↓kFn_fz, ↓kFn_fr, ↓kFn_nx, ↓wM_append, ↓wM_pop, ↓wM_rev, ↓wM_ins, ↓wM_popAt, ↓kMt_own, ↓kMt_io, ↓wE_mut, ↓wE_mut0, ↓kSi_i, ↓kSo_fz, ↓wS_store, pl_1, pl_2, wipe_1, wipe_2, unw_1, unw_2, List.getD_cons_zero, List.getD_cons_succ, List.set_cons_zero, List.set_cons_succ, List.cons_append, List.nil_append, List.replicate_succ, List.replicate_zero, Nat.reduceSub, Nat.reduceAdd, Nat.reduceLT, plain_no, plain_val, plain_ov, Int.natCast_zero, Int.ofNat_zero, Int.cast_ofNat_Int, decide_eq_true_eq, decide_eq_false_iff_not, Bool.not_eq_true', Bool.not_eq_false', Bool.not_true, Bool.not_false, if_true, if_false, true_and, and_true, forall_const, decide_true, decide_false, Int.toNat_natCast, Int.reduceEq, Int.reduceNe, Int.reduceLT, Int.reduceLE, Int.zero_add, implies_true, true_implies, not_true_eq_false, not_false_eq_true, false_implies, false_and, and_false, reduceCtorEq, ite_true, ite_false, eq_self, List.length_cons, List.length_nil, ↓w_isi_bool_none, ↓w_isi_bool_bool, ↓w_isi_bool_int, ↓w_isi_bool_str, ↓w_isi_bool_tuple, ↓w_isi_bool_list, ↓w_isi_int_none, ↓w_isi_int_bool, ↓w_isi_int_int, ↓w_isi_int_str, ↓w_isi_int_tuple, ↓w_isi_int_list, ↓w_isi_str_none, ↓w_isi_str_bool, ↓w_isi_str_int, ↓w_isi_str_str, ↓w_isi_str_tuple, ↓w_isi_str_list, ↓w_isi_tuple_none, ↓w_isi_tuple_bool, ↓w_isi_tuple_int, ↓w_isi_tuple_str, ↓w_isi_tuple_tuple, ↓w_isi_tuple_list, ↓w_isi_list_none, ↓w_isi_list_bool, ↓w_isi_list_int, ↓w_isi_list_str, ↓w_isi_list_tuple, ↓w_isi_list_list, ↓w_isN_none, ↓w_isN_bool, ↓w_isN_int, ↓w_isN_str, ↓w_isN_tuple, w_eqs, h, Bool.and_self, beq_self_eq_true]
  | succ n ih =>
    intro a h
    refine eq_of_wO (wO_fn rfl ?_)
    unfold B_sameB
    cases h with
    | none => simp only [↓wO_some, ↓wO_none, ↓wSl_0, ↓wSl_s, ↓wP_0, ↓wP_s, ↓kW_no, ↓kW_val, ↓kW_own, ↓kW_ov, ↓wO_setSlot, ↓wE_C, ↓kB_val, ↓kB_own, ↓kB_io, ↓wE_B, ↓kV_val, ↓kV_own, ↓wE_V, ↓kM_val, ↓kM_own, ↓wE_M, ↓kF_fz, ↓kF_bw, ↓kF_fr, ↓wE_F, ↓wR_fz, ↓kCt_val, ↓kCt_own, ↓kCt_io, ↓wR_bw, ↓wE_bin, ↓wE_un, ↓wA_nil, ↓kA_fz, ↓kA_bw, ↓kA_fr, ↓wA_cons, ↓wRs_nil, ↓wRs_cons, ↓wE_args, ↓wZ_nil, ↓wZ_cons, ↓kSz_0, ↓kSz_1, ↓kSz_2, ↓kSz_3, ↓kSz_4, ↓kSz_5, ↓kSz_6, ↓kSz_7, ↓kSz_8, ↓wE_tup, ↓wE_lst, ↓kT_bool, ↓wT_tst, ↓wT_and, ↓wT_or, ↓wT_not, ↓wT_yes, ↓wE_bool, ↓wE_if, ↓kAs_val, ↓kAs_own, ↓kAs_io, ↓wAs_nil, ↓wAs_fz, ↓wAs_bw, ↓kOut_nil, ↓kOut_nilr, ↓kPut_own, ↓kPut_io, ↓kOut_one, ↓kOut_oner, ↓wE_call, ↓w_add, ↓w_sub, ↓w_mul, ↓w_mulI, ↓w_fdiv, ↓w_mod, ↓w_neg, ↓w_lt, ↓w_le, ↓w_gt, ↓w_ge, ↓w_eq, ↓w_ne, ↓w_abs, ↓w_min2, ↓w_max2, ↓w_int, ↓w_intb, ↓w_pow, ↓w_lenL, ↓w_lenT, ↓w_ixL, ↓w_ixT, ↓w_tupL, ↓w_tupT, ↓w_listL, ↓w_listT, ↓kS_nx, ↓kS_bk, ↓kS_rt, ↓wS_nx, ↓wS_bk, ↓wS_seq, ↓kSt_fz, ↓kSt_fr, ↓wS_set, ↓kR_fz, ↓kR_fr, ↓wS_ret, ↓wS_retN, ↓wS_drop, ↓wS_if, ↓kAg_val, ↓wS_aug, ↓wG_N, ↓wG_T, ↓wGs_nil, ↓wGs_cons, ↓kIt_L, ↓kIt_T, ↓wI_seq, ↓kG1_i, ↓wI_rg1, ↓kG2_i, ↓wI_rg2, ↓wS_for, ↓wS_while, ↓kAz_fz, ↓wS_asg, ↓kL_nx, ↓kL_bk, ↓kL_rt, ↓wE_comp, ↓wU_nil, ↓wU_io, ↓wU_val, ↓kFn_fz, ↓kFn_fr, ↓kFn_nx, ↓wM_append, ↓wM_pop, ↓wM_rev, ↓wM_ins, ↓wM_popAt, ↓kMt_own, ↓kMt_io, ↓wE_mut, ↓wE_mut0, ↓kSi_i, ↓kSo_fz, ↓wS_store, pl_1, pl_2, wipe_1, wipe_2, unw_1, unw_2, List.getD_cons_zero, List.getD_cons_succ, List.set_cons_zero, List.set_cons_succ, List.cons_append, List.nil_append, List.replicate_succ, List.replicate_zero, Nat.reduceSub, Nat.reduceAdd, Nat.reduceLT, plain_no, plain_val, plain_ov, Int.natCast_zero, Int.ofNat_zero, Int.cast_ofNat_Int, decide_eq_true_eq, decide_eq_false_iff_not, Bool.not_eq_true', Bool.not_eq_false', Bool.not_true, Bool.not_false, if_true, if_false, true_and, and_true, forall_const, decide_true, decide_false, Int.toNat_natCast, Int.reduceEq, Int.reduceNe, Int.reduceLT, Int.reduceLE, Int.zero_add, implies_true, true_implies, not_true_eq_false, not_false_eq_true, false_implies, false_and, and_false, reduceCtorEq, ite_true, ite_false, eq_self, List.length_cons, List.length_nil, ↓w_isi_bool_none, ↓w_isi_bool_bool, ↓w_isi_bool_int, ↓w_isi_bool_str, ↓w_isi_bool_tuple, ↓w_isi_bool_list, ↓w_isi_int_none, ↓w_isi_int_bool, ↓w_isi_int_int, ↓w_isi_int_str, ↓w_isi_int_tuple, ↓w_isi_int_list, ↓w_isi_str_none, ↓w_isi_str_bool, ↓w_isi_str_int, ↓w_isi_str_str, ↓w_isi_str_tuple, ↓w_isi_str_list, ↓w_isi_tuple_none, ↓w_isi_tuple_bool, ↓w_isi_tuple_int, ↓w_isi_tuple_str, ↓w_isi_tuple_tuple, ↓w_isi_tuple_list, ↓w_isi_list_none, ↓w_isi_list_bool, ↓w_isi_list_int, ↓w_isi_list_str, ↓w_isi_list_tuple, ↓w_isi_list_list, ↓w_isN_none, ↓w_isN_bool, ↓w_isN_int, ↓w_isN_str, ↓w_isN_tuple]
    | bool b => simp only [↓wO_some, ↓wO_none, ↓wSl_0, ↓wSl_s, ↓wP_0, ↓wP_s, ↓kW_no, ↓kW_val, ↓kW_own, ↓kW_ov, ↓wO_setSlot, ↓wE_C, ↓kB_val, ↓kB_own, ↓kB_io, ↓wE_B, ↓kV_val, ↓kV_own, ↓wE_V, ↓kM_val, ↓kM_own, ↓wE_M, ↓kF_fz, ↓kF_bw, ↓kF_fr, ↓wE_F, ↓wR_fz, ↓kCt_val, ↓kCt_own, ↓kCt_io, ↓wR_bw, ↓wE_bin, ↓wE_un, ↓wA_nil, ↓kA_fz, ↓kA_bw, ↓kA_fr, ↓wA_cons, ↓wRs_nil, ↓wRs_cons, ↓wE_args, ↓wZ_nil, ↓wZ_cons, ↓kSz_0, ↓kSz_1, ↓kSz_2, ↓kSz_3, ↓kSz_4, ↓kSz_5, ↓kSz_6, ↓kSz_7, ↓kSz_8, ↓wE_tup, ↓wE_lst, ↓kT_bool, ↓wT_tst, ↓wT_and, ↓wT_or, ↓wT_not, ↓wT_yes, ↓wE_bool, ↓wE_if, ↓kAs_val, ↓kAs_own, ↓kAs_io, ↓wAs_nil, ↓wAs_fz, ↓wAs_bw, ↓kOut_nil, ↓kOut_nilr, ↓kPut_own, ↓kPut_io, ↓kOut_one, ↓kOut_oner, ↓wE_call, ↓w_add, ↓w_sub, ↓w_mul, ↓w_mulI, ↓w_fdiv, ↓w_mod, ↓w_neg, ↓w_lt, ↓w_le, ↓w_gt, ↓w_ge, ↓w_eq, ↓w_ne, ↓w_abs, ↓w_min2, ↓w_max2, ↓w_int, ↓w_intb, ↓w_pow, ↓w_lenL, ↓w_lenT, ↓w_ixL, ↓w_ixT, ↓w_tupL, ↓w_tupT, ↓w_listL, ↓w_listT, ↓kS_nx, ↓kS_bk, ↓kS_rt, ↓wS_nx, ↓wS_bk, ↓wS_seq, ↓kSt_fz, ↓kSt_fr, ↓wS_set, ↓kR_fz, ↓kR_fr, ↓wS_ret, ↓wS_retN, ↓wS_drop, ↓wS_if, ↓kAg_val, ↓wS_aug, ↓wG_N, ↓wG_T, ↓wGs_nil, ↓wGs_cons, ↓kIt_L, ↓kIt_T, ↓wI_seq, ↓kG1_i, ↓wI_rg1, ↓kG2_i, ↓wI_rg2, ↓wS_for, ↓wS_while, ↓kAz_fz, ↓wS_asg, ↓kL_nx, ↓kL_bk, ↓kL_rt, ↓wE_comp, ↓wU_nil, ↓wU_io, ↓wU_val, ↓kFn_fz, ↓kFn_fr, ↓kFn_nx, ↓wM_append, ↓wM_pop, ↓wM_rev, ↓wM_ins, ↓wM_popAt, ↓kMt_own, ↓kMt_io, ↓wE_mut, ↓wE_mut0, ↓kSi_i, ↓kSo_fz, ↓wS_store, pl_1, pl_2, wipe_1, wipe_2, unw_1, unw_2, List.getD_cons_zero, List.getD_cons_succ, List.set_cons_zero, List.set_cons_succ, List.cons_append, List.nil_append, List.replicate_succ, List.replicate_zero, Nat.reduceSub, Nat.reduceAdd, Nat.reduceLT, plain_no, plain_val, plain_ov, Int.natCast_zero, Int.ofNat_zero, Int.cast_ofNat_Int, decide_eq_true_eq, decide_eq_false_iff_not, Bool.not_eq_true', Bool.not_eq_false', Bool.not_true, Bool.not_false, if_true, if_false, true_and, and_true, forall_const, decide_true, decide_false, Int.toNat_natCast, Int.reduceEq, Int.reduceNe, Int.reduceLT, Int.reduceLE, Int.zero_add, implies_true, true_implies, not_true_eq_false, not_false_eq_true, false_implies, false_and, and_false, reduceCtorEq, ite_true, ite_false, eq_self, List.length_cons, List.length_nil, ↓w_isi_bool_none, ↓w_isi_bool_bool, ↓w_isi_bool_int, ↓w_isi_bool_str, ↓w_isi_bool_tuple, ↓w_isi_bool_list, ↓w_isi_int_none, ↓w_isi_int_bool, ↓w_isi_int_int, ↓w_isi_int_str, ↓w_isi_int_tuple, ↓w_isi_int_list, ↓w_isi_str_none, ↓w_isi_str_bool, ↓w_isi_str_int, ↓w_isi_str_str, ↓w_isi_str_tuple, ↓w_isi_str_list, ↓w_isi_tuple_none, ↓w_isi_tuple_bool, ↓w_isi_tuple_int, ↓w_isi_tuple_str, ↓w_isi_tuple_tuple, ↓w_isi_tuple_list, ↓w_isi_list_none, ↓w_isi_list_bool, ↓w_isi_list_int, ↓w_isi_list_str, ↓w_isi_list_tuple, ↓w_isi_list_list, ↓w_isN_none, ↓w_isN_bool, ↓w_isN_int, ↓w_isN_str, ↓w_isN_tuple, w_eqb, beq_self_eq_true]
    | int i => simp only [↓wO_some, ↓wO_none, ↓wSl_0, ↓wSl_s, ↓wP_0, ↓wP_s, ↓kW_no, ↓kW_val, ↓kW_own, ↓kW_ov, ↓wO_setSlot, ↓wE_C, ↓kB_val, ↓kB_own, ↓kB_io, ↓wE_B, ↓kV_val, ↓kV_own, ↓wE_V, ↓kM_val, ↓kM_own, ↓wE_M, ↓kF_fz, ↓kF_bw, ↓kF_fr, ↓wE_F, ↓wR_fz, ↓kCt_val, ↓kCt_own, ↓kCt_io, ↓wR_bw, ↓wE_bin, ↓wE_un, ↓wA_nil, ↓kA_fz, ↓kA_bw, ↓kA_fr, ↓wA_cons, ↓wRs_nil, ↓wRs_cons, ↓wE_args, ↓wZ_nil, ↓wZ_cons, ↓kSz_0, ↓kSz_1, ↓kSz_2, ↓kSz_3, ↓kSz_4, ↓kSz_5, ↓kSz_6, ↓kSz_7, ↓kSz_8, ↓wE_tup, ↓wE_lst, ↓kT_bool, ↓wT_tst, ↓wT_and, ↓wT_or, ↓wT_not, ↓wT_yes, ↓wE_bool, ↓wE_if, ↓kAs_val, ↓kAs_own, ↓kAs_io, ↓wAs_nil, ↓wAs_fz, ↓wAs_bw, ↓kOut_nil, ↓kOut_nilr, ↓kPut_own, ↓kPut_io, ↓kOut_one, ↓kOut_oner, ↓wE_call, ↓w_add, ↓w_sub, ↓w_mul, ↓w_mulI, ↓w_fdiv, ↓w_mod, ↓w_neg, ↓w_lt, ↓w_le, ↓w_gt, ↓w_ge, ↓w_eq, ↓w_ne, ↓w_abs, ↓w_min2, ↓w_max2, ↓w_int, ↓w_intb, ↓w_pow, ↓w_lenL, ↓w_lenT, ↓w_ixL, ↓w_ixT, ↓w_tupL, ↓w_tupT, ↓w_listL, ↓w_listT, ↓kS_nx, ↓kS_bk, ↓kS_rt, ↓wS_nx, ↓wS_bk, ↓wS_seq, ↓kSt_fz, ↓kSt_fr, ↓wS_set, ↓kR_fz, ↓kR_fr, ↓wS_ret, ↓wS_retN, ↓wS_drop, ↓wS_if, ↓kAg_val, ↓wS_aug, ↓wG_N, ↓wG_T, ↓wGs_nil, ↓wGs_cons, ↓kIt_L, ↓kIt_T, ↓wI_seq, ↓kG1_i, ↓wI_rg1, ↓kG2_i, ↓wI_rg2, ↓wS_for, ↓wS_while, ↓kAz_fz, ↓wS_asg, ↓kL_nx, ↓kL_bk, ↓kL_rt, ↓wE_comp, ↓wU_nil, ↓wU_io, ↓wU_val, ↓kFn_fz, ↓kFn_fr, ↓kFn_nx, ↓wM_append, ↓wM_pop, ↓wM_rev, ↓wM_ins, ↓wM_popAt, ↓kMt_own, ↓kMt_io, ↓wE_mut, ↓wE_mut0, ↓kSi_i, ↓kSo_fz, ↓wS_store, pl_1, pl_2, wipe_1, wipe_2, unw_1, unw_2, List.getD_cons_zero, List.getD_cons_succ, List.set_cons_zero, List.set_cons_succ, List.cons_append, List.nil_append, List.replicate_succ, List.replicate_zero, Nat.reduceSub, Nat.reduceAdd, Nat.reduceLT, plain_no, plain_val, plain_ov, Int.natCast_zero, Int.ofNat_zero, Int.cast_ofNat_Int, decide_eq_true_eq, decide_eq_false_iff_not, Bool.not_eq_true', Bool.not_eq_false', Bool.not_true, Bool.not_false, if_true, if_false, true_and, and_true, forall_const, decide_true, decide_false, Int.toNat_natCast, Int.reduceEq, Int.reduceNe, Int.reduceLT, Int.reduceLE, Int.zero_add, implies_true, true_implies, not_true_eq_false, not_false_eq_true, false_implies, false_and, and_false, reduceCtorEq, ite_true, ite_false, eq_self, List.length_cons, List.length_nil, ↓w_isi_bool_none, ↓w_isi_bool_bool, ↓w_isi_bool_int, ↓w_isi_bool_str, ↓w_isi_bool_tuple, ↓w_isi_bool_list, ↓w_isi_int_none, ↓w_isi_int_bool, ↓w_isi_int_int, ↓w_isi_int_str, ↓w_isi_int_tuple, ↓w_isi_int_list, ↓w_isi_str_none, ↓w_isi_str_bool, ↓w_isi_str_int, ↓w_isi_str_str, ↓w_isi_str_tuple, ↓w_isi_str_list, ↓w_isi_tuple_none, ↓w_isi_tuple_bool, ↓w_isi_tuple_int, ↓w_isi_tuple_str, ↓w_isi_tuple_tuple, ↓w_isi_tuple_list, ↓w_isi_list_none, ↓w_isi_list_bool, ↓w_isi_list_int, ↓w_isi_list_str, ↓w_isi_list_tuple, ↓w_isi_list_list, ↓w_isN_none, ↓w_isN_bool, ↓w_isN_int, ↓w_isN_str, ↓w_isN_tuple]
    | str h => simp only [↓wO_some, ↓wO_none, ↓wSl_0, ↓wSl_s, ↓wP_0, ↓wP_s, ↓kW_no, ↓kW_val, ↓kW_own, ↓kW_ov, ↓wO_setSlot, ↓wE_C, ↓kB_val, ↓kB_own, ↓kB_io, ↓wE_B, ↓kV_val, ↓kV_own, ↓wE_V, ↓kM_val, ↓kM_own, ↓wE_M, ↓kF_fz, ↓kF_bw, ↓kF_fr, ↓wE_F, ↓wR_fz, ↓kCt_val, ↓kCt_own, ↓kCt_io, ↓wR_bw, ↓wE_bin, ↓wE_un, ↓wA_nil, ↓kA_fz, ↓kA_bw, ↓kA_fr, ↓wA_cons, ↓wRs_nil, ↓wRs_cons, ↓wE_args, ↓wZ_nil, ↓wZ_cons, ↓kSz_0, ↓kSz_1, ↓kSz_2, ↓kSz_3, ↓kSz_4, ↓kSz_5, ↓kSz_6, ↓kSz_7, ↓kSz_8, ↓wE_tup, ↓wE_lst, ↓kT_bool, ↓wT_tst, ↓wT_and, ↓wT_or, ↓wT_not, ↓wT_yes, ↓wE_bool, ↓wE_if, ↓kAs_val, ↓kAs_own, ↓kAs_io, ↓wAs_nil, ↓wAs_fz, ↓wAs_bw, ↓kOut_nil, ↓kOut_nilr, ↓kPut_own, ↓kPut_io, ↓kOut_one, ↓kOut_oner, ↓wE_call, ↓w_add, ↓w_sub, ↓w_mul, ↓w_mulI, ↓w_fdiv, ↓w_mod, ↓w_neg, ↓w_lt, ↓w_le, ↓w_gt, ↓w_ge, ↓w_eq, ↓w_ne, ↓w_abs, ↓w_min2, ↓w_max2, ↓w_int, ↓w_intb, ↓w_pow, ↓w_lenL, ↓w_lenT, ↓w_ixL, ↓w_ixT, ↓w_tupL, ↓w_tupT, ↓w_listL, ↓w_listT, ↓kS_nx, ↓kS_bk, ↓kS_rt, ↓wS_nx, ↓wS_bk, ↓wS_seq, ↓kSt_fz, ↓kSt_fr, ↓wS_set, ↓kR_fz, ↓kR_fr, ↓wS_ret, ↓wS_retN, ↓wS_drop, ↓wS_if, ↓kAg_val, ↓wS_aug, ↓wG_N, ↓wG_T, ↓wGs_nil, ↓wGs_cons, ↓kIt_L, ↓kIt_T, ↓wI_seq, ↓kG1_i, ↓wI_rg1, ↓kG2_i, ↓wI_rg2, ↓wS_for, ↓wS_while, ↓kAz_fz, ↓wS_asg, ↓kL_nx, ↓kL_bk, ↓kL_rt, ↓wE_comp, ↓wU_nil, ↓wU_io, ↓wU_val, ↓kFn_fz, ↓kFn_fr, ↓kFn_nx, ↓wM_append, ↓wM_pop, ↓wM_rev, ↓wM_ins, ↓wM_popAt, ↓kMt_own, ↓kMt_io, ↓wE_mut, ↓wE_mut0, ↓kSi_i, ↓kSo_fz, ↓wS_store, pl_1, pl_2, wipe_1, wipe_2, unw_1, unw_2, List.getD_cons_zero, List.getD_cons_succ, List.set_cons_zero, List.set_cons_succ, List.cons_append, List.nil_append, List.replicate_succ, List.replicate_zero, Nat.reduceSub, Nat.reduceAdd, Nat.reduceLT, plain_no, plain_val, plain_ov, Int.natCast_zero, Int.ofNat_zero, Int.cast_ofNat_Int, decide_eq_true_eq, decide_eq_false_iff_not, Bool.not_eq_true', Bool.not_eq_false', Bool.not_true, Bool.not_false, if_true, if_false, true_and, and_true, forall_const, decide_true, decide_false, Int.toNat_natCast, Int.reduceEq, Int.reduceNe, Int.reduceLT, Int.reduceLE, Int.zero_add, implies_true, true_implies, not_true_eq_false, not_false_eq_true, false_implies, false_and, and_false, reduceCtorEq, ite_true, ite_false, eq_self, List.length_cons, List.length_nil, ↓w_isi_bool_none, ↓w_isi_bool_bool, ↓w_isi_bool_int, ↓w_isi_bool_str, ↓w_isi_bool_tuple, ↓w_isi_bool_list, ↓w_isi_int_none, ↓w_isi_int_bool, ↓w_isi_int_int, ↓w_isi_int_str, ↓w_isi_int_tuple, ↓w_isi_int_list, ↓w_isi_str_none, ↓w_isi_str_bool, ↓w_isi_str_int, ↓w_isi_str_str, ↓w_isi_str_tuple, ↓w_isi_str_list, ↓w_isi_tuple_none, ↓w_isi_tuple_bool, ↓w_isi_tuple_int, ↓w_isi_tuple_str, ↓w_isi_tuple_tuple, ↓w_isi_tuple_list, ↓w_isi_list_none, ↓w_isi_list_bool, ↓w_isi_list_int, ↓w_isi_list_str, ↓w_isi_list_tuple, ↓w_isi_list_list, ↓w_isN_none, ↓w_isN_bool, ↓w_isN_int, ↓w_isN_str, ↓w_isN_tuple, w_eqs, h, Bool.and_self, beq_self_eq_true]
    | @tuple _ ds hl hd =>
      simp only [↓wO_some, ↓wO_none, ↓wSl_0, ↓wSl_s, ↓wP_0, ↓wP_s, ↓kW_no, ↓kW_val, ↓kW_own, ↓kW_ov, ↓wO_setSlot, ↓wE_C, ↓kB_val, ↓kB_own, ↓kB_io, ↓wE_B, ↓kV_val, ↓kV_own, ↓wE_V, ↓kM_val, ↓kM_own, ↓wE_M, ↓kF_fz, ↓kF_bw, ↓kF_fr, ↓wE_F, ↓wR_fz, ↓kCt_val, ↓kCt_own, ↓kCt_io, ↓wR_bw, ↓wE_bin, ↓wE_un, ↓wA_nil, ↓kA_fz, ↓kA_bw, ↓kA_fr, ↓wA_cons, ↓wRs_nil, ↓wRs_cons, ↓wE_args, ↓wZ_nil, ↓wZ_cons, ↓kSz_0, ↓kSz_1, ↓kSz_2, ↓kSz_3, ↓kSz_4, ↓kSz_5, ↓kSz_6, ↓kSz_7, ↓kSz_8, ↓wE_tup, ↓wE_lst, ↓kT_bool, ↓wT_tst, ↓wT_and, ↓wT_or, ↓wT_not, ↓wT_yes, ↓wE_bool, ↓wE_if, ↓kAs_val, ↓kAs_own, ↓kAs_io, ↓wAs_nil, ↓wAs_fz, ↓wAs_bw, ↓kOut_nil, ↓kOut_nilr, ↓kPut_own, ↓kPut_io, ↓kOut_one, ↓kOut_oner, ↓wE_call, ↓w_add, ↓w_sub, ↓w_mul, ↓w_mulI, ↓w_fdiv, ↓w_mod, ↓w_neg, ↓w_lt, ↓w_le, ↓w_gt, ↓w_ge, ↓w_eq, ↓w_ne, ↓w_abs, ↓w_min2, ↓w_max2, ↓w_int, ↓w_intb, ↓w_pow, ↓w_lenL, ↓w_lenT, ↓w_ixL, ↓w_ixT, ↓w_tupL, ↓w_tupT, ↓w_listL, ↓w_listT, ↓kS_nx, ↓kS_bk, ↓kS_rt, ↓wS_nx, ↓wS_bk, ↓wS_seq, ↓kSt_fz, ↓kSt_fr, ↓wS_set, ↓kR_fz, ↓kR_fr, ↓wS_ret, ↓wS_retN, ↓wS_drop, ↓wS_if, ↓kAg_val, ↓wS_aug, ↓wG_N, ↓wG_T, ↓wGs_nil, ↓wGs_cons, ↓kIt_L, ↓kIt_T, ↓wI_seq, ↓kG1_i, ↓wI_rg1, ↓kG2_i, ↓wI_rg2, ↓wS_for, ↓wS_while, ↓kAz_fz, ↓wS_asg, ↓kL_nx, ↓kL_bk, ↓kL_rt, ↓wE_comp, ↓wU_nil, ↓wU_io, ↓wU_val, ↓kFn_fz, ↓kFn_fr, ↓kFn_nx, ↓wM_append, ↓wM_pop, ↓wM_rev, ↓wM_ins, ↓wM_popAt, ↓kMt_own, ↓kMt_io, ↓wE_mut, ↓wE_mut0, ↓kSi_i, ↓kSo_fz, ↓wS_store, pl_1, pl_2, wipe_1, wipe_2, unw_1, unw_2, List.getD_cons_zero, List.getD_cons_succ, List.set_cons_zero, List.set_cons_succ, List.cons_append, List.nil_append, List.replicate_succ, List.replicate_zero, Nat.reduceSub, Nat.reduceAdd, Nat.reduceLT, plain_no, plain_val, plain_ov, Int.natCast_zero, Int.ofNat_zero, Int.cast_ofNat_Int, decide_eq_true_eq, decide_eq_false_iff_not, Bool.not_eq_true', Bool.not_eq_false', Bool.not_true, Bool.not_false, if_true, if_false, true_and, and_true, forall_const, decide_true, decide_false, Int.toNat_natCast, Int.reduceEq, Int.reduceNe, Int.reduceLT, Int.reduceLE, Int.zero_add, implies_true, true_implies, not_true_eq_false, not_false_eq_true, false_implies, false_and, and_false, reduceCtorEq, ite_true, ite_false, eq_self, List.length_cons, List.length_nil, ↓w_isi_bool_none, ↓w_isi_bool_bool, ↓w_isi_bool_int, ↓w_isi_bool_str, ↓w_isi_bool_tuple, ↓w_isi_bool_list, ↓w_isi_int_none, ↓w_isi_int_bool, ↓w_isi_int_int, ↓w_isi_int_str, ↓w_isi_int_tuple, ↓w_isi_int_list, ↓w_isi_str_none, ↓w_isi_str_bool, ↓w_isi_str_int, ↓w_isi_str_str, ↓w_isi_str_tuple, ↓w_isi_str_list, ↓w_isi_tuple_none, ↓w_isi_tuple_bool, ↓w_isi_tuple_int, ↓w_isi_tuple_str, ↓w_isi_tuple_tuple, ↓w_isi_tuple_list, ↓w_isi_list_none, ↓w_isi_list_bool, ↓w_isi_list_int, ↓w_isi_list_str, ↓w_isi_list_tuple, ↓w_isi_list_list, ↓w_isN_none, ↓w_isN_bool, ↓w_isN_int, ↓w_isN_str, ↓w_isN_tuple]
      refine wL_range (fun k ρ => ∃ o, ρ = [.val (.tuple ds), .val (.tuple ds), ov o]) ⟨none, rfl⟩ ?_ ?_
      · rintro i _ hi ⟨o, rfl⟩
        have e := atD_nat (List.getElem?_eq_getElem hi)
        have := ih ds[i] (hd _ (List.getElem_mem hi))
        simp only [↓wO_some, ↓wO_none, ↓wSl_0, ↓wSl_s, ↓wP_0, ↓wP_s, ↓kW_no, ↓kW_val, ↓kW_own, ↓kW_ov, ↓wO_setSlot, ↓wE_C, ↓kB_val, ↓kB_own, ↓kB_io, ↓wE_B, ↓kV_val, ↓kV_own, ↓wE_V, ↓kM_val, ↓kM_own, ↓wE_M, ↓kF_fz, ↓kF_bw, ↓kF_fr, ↓wE_F, ↓wR_fz, ↓kCt_val, ↓kCt_own, ↓kCt_io, ↓wR_bw, ↓wE_bin, ↓wE_un, ↓wA_nil, ↓kA_fz, ↓kA_bw, ↓kA_fr, ↓wA_cons, ↓wRs_nil, ↓wRs_cons, ↓wE_args, ↓wZ_nil, ↓wZ_cons, ↓kSz_0, ↓kSz_1, ↓kSz_2, ↓kSz_3, ↓kSz_4, ↓kSz_5, ↓kSz_6, ↓kSz_7, ↓kSz_8, ↓wE_tup, ↓wE_lst, ↓kT_bool, ↓wT_tst, ↓wT_and, ↓wT_or, ↓wT_not, ↓wT_yes, ↓wE_bool, ↓wE_if, ↓kAs_val, ↓kAs_own, ↓kAs_io, ↓wAs_nil, ↓wAs_fz, ↓wAs_bw, ↓kOut_nil, ↓kOut_nilr, ↓kPut_own, ↓kPut_io, ↓kOut_one, ↓kOut_oner, ↓wE_call, ↓w_add, ↓w_sub, ↓w_mul, ↓w_mulI, ↓w_fdiv, ↓w_mod, ↓w_neg, ↓w_lt, ↓w_le, ↓w_gt, ↓w_ge, ↓w_eq, ↓w_ne, ↓w_abs, ↓w_min2, ↓w_max2, ↓w_int, ↓w_intb, ↓w_pow, ↓w_lenL, ↓w_lenT, ↓w_ixL, ↓w_ixT, ↓w_tupL, ↓w_tupT, ↓w_listL, ↓w_listT, ↓kS_nx, ↓kS_bk, ↓kS_rt, ↓wS_nx, ↓wS_bk, ↓wS_seq, ↓kSt_fz, ↓kSt_fr, ↓wS_set, ↓kR_fz, ↓kR_fr, ↓wS_ret, ↓wS_retN, ↓wS_drop, ↓wS_if, ↓kAg_val, ↓wS_aug, ↓wG_N, ↓wG_T, ↓wGs_nil, ↓wGs_cons, ↓kIt_L, ↓kIt_T, ↓wI_seq, ↓kG1_i, ↓wI_rg1, ↓kG2_i, ↓wI_rg2, ↓wS_for, ↓wS_while, ↓kAz_fz, ↓wS_asg, ↓kL_nx, ↓kL_bk, ↓kL_rt, ↓wE_comp, ↓wU_nil, ↓wU_io, ↓wU_val, ↓kFn_fz, ↓kFn_fr, ↓kFn_nx, ↓wM_append, ↓wM_pop, ↓wM_rev, ↓wM_ins, ↓wM_popAt, ↓kMt_own, ↓kMt_io, ↓wE_mut, ↓wE_mut0, ↓kSi_i, ↓kSo_fz, ↓wS_store, pl_1, pl_2, wipe_1, wipe_2, unw_1, unw_2, List.getD_cons_zero, List.getD_cons_succ, List.set_cons_zero, List.set_cons_succ, List.cons_append, List.nil_append, List.replicate_succ, List.replicate_zero, Nat.reduceSub, Nat.reduceAdd, Nat.reduceLT, plain_no, plain_val, plain_ov, Int.natCast_zero, Int.ofNat_zero, Int.cast_ofNat_Int, decide_eq_true_eq, decide_eq_false_iff_not, Bool.not_eq_true', Bool.not_eq_false', Bool.not_true, Bool.not_false, if_true, if_false, true_and, and_true, forall_const, decide_true, decide_false, Int.toNat_natCast, Int.reduceEq, Int.reduceNe, Int.reduceLT, Int.reduceLE, Int.zero_add, implies_true, true_implies, not_true_eq_false, not_false_eq_true, false_implies, false_and, and_false, reduceCtorEq, ite_true, ite_false, eq_self, List.length_cons, List.length_nil, Int.zero_add, e, this]
        exact ⟨some _, rfl⟩
      · rintro _ ⟨o, rfl⟩
        simp only [↓wO_some, ↓wO_none, ↓wSl_0, ↓wSl_s, ↓wP_0, ↓wP_s, ↓kW_no, ↓kW_val, ↓kW_own, ↓kW_ov, ↓wO_setSlot, ↓wE_C, ↓kB_val, ↓kB_own, ↓kB_io, ↓wE_B, ↓kV_val, ↓kV_own, ↓wE_V, ↓kM_val, ↓kM_own, ↓wE_M, ↓kF_fz, ↓kF_bw, ↓kF_fr, ↓wE_F, ↓wR_fz, ↓kCt_val, ↓kCt_own, ↓kCt_io, ↓wR_bw, ↓wE_bin, ↓wE_un, ↓wA_nil, ↓kA_fz, ↓kA_bw, ↓kA_fr, ↓wA_cons, ↓wRs_nil, ↓wRs_cons, ↓wE_args, ↓wZ_nil, ↓wZ_cons, ↓kSz_0, ↓kSz_1, ↓kSz_2, ↓kSz_3, ↓kSz_4, ↓kSz_5, ↓kSz_6, ↓kSz_7, ↓kSz_8, ↓wE_tup, ↓wE_lst, ↓kT_bool, ↓wT_tst, ↓wT_and, ↓wT_or, ↓wT_not, ↓wT_yes, ↓wE_bool, ↓wE_if, ↓kAs_val, ↓kAs_own, ↓kAs_io, ↓wAs_nil, ↓wAs_fz, ↓wAs_bw, ↓kOut_nil, ↓kOut_nilr, ↓kPut_own, ↓kPut_io, ↓kOut_one, ↓kOut_oner, ↓wE_call, ↓w_add, ↓w_sub, ↓w_mul, ↓w_mulI, ↓w_fdiv, ↓w_mod, ↓w_neg, ↓w_lt, ↓w_le, ↓w_gt, ↓w_ge, ↓w_eq, ↓w_ne, ↓w_abs, ↓w_min2, ↓w_max2, ↓w_int, ↓w_intb, ↓w_pow, ↓w_lenL, ↓w_lenT, ↓w_ixL, ↓w_ixT, ↓w_tupL, ↓w_tupT, ↓w_listL, ↓w_listT, ↓kS_nx, ↓kS_bk, ↓kS_rt, ↓wS_nx, ↓wS_bk, ↓wS_seq, ↓kSt_fz, ↓kSt_fr, ↓wS_set, ↓kR_fz, ↓kR_fr, ↓wS_ret, ↓wS_retN, ↓wS_drop, ↓wS_if, ↓kAg_val, ↓wS_aug, ↓wG_N, ↓wG_T, ↓wGs_nil, ↓wGs_cons, ↓kIt_L, ↓kIt_T, ↓wI_seq, ↓kG1_i, ↓wI_rg1, ↓kG2_i, ↓wI_rg2, ↓wS_for, ↓wS_while, ↓kAz_fz, ↓wS_asg, ↓kL_nx, ↓kL_bk, ↓kL_rt, ↓wE_comp, ↓wU_nil, ↓wU_io, ↓wU_val, ↓kFn_fz, ↓kFn_fr, ↓kFn_nx, ↓wM_append, ↓wM_pop, ↓wM_rev, ↓wM_ins, ↓wM_popAt, ↓kMt_own, ↓kMt_io, ↓wE_mut, ↓wE_mut0, ↓kSi_i, ↓kSo_fz, ↓wS_store, pl_1, pl_2, wipe_1, wipe_2, unw_1, unw_2, List.getD_cons_zero, List.getD_cons_succ, List.set_cons_zero, List.set_cons_succ, List.cons_append, List.nil_append, List.replicate_succ, List.replicate_zero, Nat.reduceSub, Nat.reduceAdd, Nat.reduceLT, plain_no, plain_val, plain_ov, Int.natCast_zero, Int.ofNat_zero, Int.cast_ofNat_Int, decide_eq_true_eq, decide_eq_false_iff_not, Bool.not_eq_true', Bool.not_eq_false', Bool.not_true, Bool.not_false, if_true, if_false, true_and, and_true, forall_const, decide_true, decide_false, Int.toNat_natCast, Int.reduceEq, Int.reduceNe, Int.reduceLT, Int.reduceLE, Int.zero_add, implies_true, true_implies, not_true_eq_false, not_false_eq_true, false_implies, false_and, and_false, reduceCtorEq, ite_true, ite_false, eq_self, List.length_cons, List.length_nil]
theorem sameA_spec {x y : D} {Q : RV × List D → Prop} (h : x = y) (p : Pl 7 y) (q : Q (.fz (.bool true), [])) : wO (F_sameA [.val x, .val y]) Q := by
  subst h
  exact wO_of (sameA_refl 7 x p) q
theorem sameB_spec {x y : D} {Q : RV × List D → Prop} (h : x = y) (p : Pl 7 y) (q : Q (.fz (.bool true), [])) : wO (F_sameB [.val x, .val y]) Q := by
  subst h
  exact wO_of (sameB_refl 7 x p) q
theorem Pl.ints {n : Nat} {l : List Int} (h : l.length ≤ 16777216) : Pl (n + 1) (.tuple (l.map .int)) := by
  refine .tuple (by rw [List.length_map]; exact h) fun d hd => ?_
  obtain ⟨i, _, rfl⟩ := List.mem_map.mp hd
  exact .int i
theorem Pl.map {α : Type} {n : Nat} {e : α → D} {l : List α} (h : l.length ≤ 16777216) (he : ∀ x, x ∈ l → Pl n (e x)) : Pl (n + 1) (.tuple (l.map e)) := by
  refine .tuple (by rw [List.length_map]; exact h) fun d hd => ?_
  obtain ⟨i, hi, rfl⟩ := List.mem_map.mp hd
  exact he i hi
/-! ### draws -/
theorem fmod_nat (i n : Nat) : (i : Int).fmod (n : Int) = ((i % n : Nat) : Int) := by
  rw [Int.fmod_eq_emod_of_nonneg _ (Int.natCast_nonneg _)]; rfl
theorem w_addLL (xs ys : List D) (Q : RV → Prop) : wO (addD (.list xs) (.list ys)) Q = (szB (xs.length + ys.length) ∧ Q (.fr (.list (xs ++ ys)))) := by
  show wO (if _ then _ else _) Q = _
  rw [wO_if, wO_some]; rfl
theorem w_addTT (xs ys : List D) (Q : RV → Prop) : wO (addD (.tuple xs) (.tuple ys)) Q = (szB (xs.length + ys.length) ∧ Q (.fz (.tuple (xs ++ ys)))) := by
  show wO (if _ then _ else _) Q = _
  rw [wO_if, wO_some]; rfl
theorem w_mulLI (xs : List D) (k : Int) (Q : RV → Prop) : wO (mulD (.list xs) (.int k)) Q = ((i63 k && decide (xs.length * k.toNat ≤ sizeLine)) = true ∧ Q (.fr (.list (List.replicate k.toNat xs).flatten))) := by
  show wO (if _ then _ else _) Q = _
  rw [wO_if, wO_some]
theorem w_mulTI (xs : List D) (k : Int) (Q : RV → Prop) : wO (mulD (.tuple xs) (.int k)) Q = ((i63 k && decide (xs.length * k.toNat ≤ sizeLine)) = true ∧ Q (.fz (.tuple (List.replicate k.toNat xs).flatten))) := by
  show wO (if _ then _ else _) Q = _
  rw [wO_if, wO_some]
theorem mulOk_of {i j : Int} (h : i.natAbs < 2 ^ 64 ∨ j.natAbs < 2 ^ 64) : mulOk i j = true := by
  unfold mulOk
  rcases h with h | h <;> simp [h]
def B_drawBody : SF := (sSeq (sSet 6 (fBin modD (fB 5) (fArgs lenD (aCons (fB 2) aNil))))
  (sIf (fAnd (fTst (fBin geD (fBin ixD (fB 2) (fB 6)) (fBin powD (fC (.int 10)) (fC (.int 18))))) (fTst (fBin gtD (fBin ixD (fB 3) (fB 6)) (fC (.int 0)))))
  (sSeq (sDrop (fMut 4 mAppend (aCons (fBin modD (fArgs intD (aCons (fBin ixD (fB 3) (fB 6)) aNil)) (fC (.int 1000))) aNil)))
  (sStore 3 (fV 6) (fBin fdivD (fBin ixD (fB 3) (fB 6)) (fC (.int 1000)))))
  (sSeq (sSet 7 (fBin modD (fArgs intD (aCons (fBin addD (fBin addD (fBin mulD (fBin ixD (fB 2) (fB 6)) (fC (.int 48271))) (fBin mulD (fB 5) (fC (.int 69621)))) (fC (.int 11))) aNil)) (fC (.int 2147483647))))
  (sDrop (fMut 4 mAppend (aCons (fBin modD (fArgs intD (aCons (fBin addD (fBin addD (fBin mulD (fB 7) (fB 7)) (fBin mulD (fC (.int 3)) (fB 7))) (fB 5)) aNil)) (fC (.int 1000003))) aNil))))))
theorem draws_loop {cs : List Int} (hc0 : cs ≠ []) (hc : cs.length ≤ 64) {a b : Slot} {many : Nat} (hm : many ≤ 100000) {Q : Ctl → Ρ → Prop}
    (h : ∀ (l : List Int) o1 o2 o3 (rs : List Int), l.length = many → Q .nx [a, b, .own (.list (cs.map .int)), .own (.list (rs.map .int)), .own (.list (l.map .int)), ov o1, ov o2, ov o3, .no]) :
    wL (gN 5) B_drawBody (rangeD 0 many) [a, b, .own (.list (cs.map .int)), .own (.list (cs.map .int)), .own (.list []), .no, .no, .no, .no] Q := by
  have hl : 0 < cs.length := List.length_pos_iff.mpr hc0
  refine wL_range (fun k ρ => ∃ (l : List Int) (o1 o2 o3 : Option D) (rs : List Int), l.length = k ∧ rs.length = cs.length ∧ ρ = [a, b, .own (.list (cs.map .int)), .own (.list (rs.map .int)), .own (.list (l.map .int)), ov o1, ov o2, ov o3, .no])
    ⟨[], none, none, none, cs, rfl, rfl, rfl⟩ ?_ ?_
  · rintro i _ hi ⟨l, o1, o2, o3, rs, hl1, hrs, rfl⟩
    have hj : i % cs.length < cs.length := Nat.mod_lt _ hl
    have e1 : atD (cs.map PyData.int) ((i % cs.length : Nat) : Int) = some (.int cs[i % cs.length]) := atD_nat (by rw [List.getElem?_map, List.getElem?_eq_getElem hj]; rfl)
    have e2 : atD (rs.map PyData.int) ((i % cs.length : Nat) : Int) = some (.int (rs[i % cs.length]'(by omega))) := atD_nat (by rw [List.getElem?_map, List.getElem?_eq_getElem (by omega : i % cs.length < rs.length)]; rfl)
    have e3 : ixN rs.length ((i % cs.length : Nat) : Int) = some (i % cs.length) := ixN_nat (by omega)
    have e4 : ((cs.length : Int) = 0) = False := by apply propext; constructor <;> intro h <;> first | omega | exact h.elim
    unfold B_drawBody
    have hz : ∀ v : Int, szB (List.map PyData.int l ++ [PyData.int v]).length := fun v => szB_of (by rw [List.length_append, List.length_map, List.length_singleton]; omega)
    have hm1 : ∀ x : Int, (x.fmod 2147483647).natAbs < 2 ^ 64 := fun x => by
      have h1 := Int.fmod_nonneg_of_pos x (show (0 : Int) < 2147483647 by decide)
      have h2 := Int.fmod_lt_of_pos x (show (0 : Int) < 2147483647 by decide)
      omega
    have sec : ∀ (P : Prop), P → (mulOk cs[i % cs.length] 48271 = true ∧ mulOk (↑i) 69621 = true ∧
          mulOk ((cs[i % cs.length] * 48271 + ↑i * 69621 + 11).fmod 2147483647) ((cs[i % cs.length] * 48271 + ↑i * 69621 + 11).fmod 2147483647) = true ∧
                    mulOk 3 ((cs[i % cs.length] * 48271 + ↑i * 69621 + 11).fmod 2147483647) = true ∧ P) := fun P p =>
      ⟨mulOk_of (.inr (by decide)), mulOk_of (.inr (by decide)), mulOk_of (.inr (hm1 _)), mulOk_of (.inr (hm1 _)), p⟩
    simp only [↓wO_some, ↓wO_none, ↓wSl_0, ↓wSl_s, ↓wP_0, ↓wP_s, ↓kW_no, ↓kW_val, ↓kW_own, ↓kW_ov, ↓wO_setSlot, ↓wE_C, ↓kB_val, ↓kB_own, ↓kB_io, ↓wE_B, ↓kV_val, ↓kV_own, ↓wE_V, ↓kM_val, ↓kM_own, ↓wE_M, ↓kF_fz, ↓kF_bw, ↓kF_fr, ↓wE_F, ↓wR_fz, ↓kCt_val, ↓kCt_own, ↓kCt_io, ↓wR_bw, ↓wE_bin, ↓wE_un, ↓wA_nil, ↓kA_fz, ↓kA_bw, ↓kA_fr, ↓wA_cons, ↓wRs_nil, ↓wRs_cons, ↓wE_args, ↓wZ_nil, ↓wZ_cons, ↓kSz_0, ↓kSz_1, ↓kSz_2, ↓kSz_3, ↓kSz_4, ↓kSz_5, ↓kSz_6, ↓kSz_7, ↓kSz_8, ↓wE_tup, ↓wE_lst, ↓kT_bool, ↓wT_tst, ↓wT_and, ↓wT_or, ↓wT_not, ↓wT_yes, ↓wE_bool, ↓wE_if, ↓kAs_val, ↓kAs_own, ↓kAs_io, ↓wAs_nil, ↓wAs_fz, ↓wAs_bw, ↓kOut_nil, ↓kOut_nilr, ↓kPut_own, ↓kPut_io, ↓kOut_one, ↓kOut_oner, ↓wE_call, ↓w_add, ↓w_sub, ↓w_mul, ↓w_mulI, ↓w_fdiv, ↓w_mod, ↓w_neg, ↓w_lt, ↓w_le, ↓w_gt, ↓w_ge, ↓w_eq, ↓w_ne, ↓w_abs, ↓w_min2, ↓w_max2, ↓w_int, ↓w_intb, ↓w_pow, ↓w_lenL, ↓w_lenT, ↓w_ixL, ↓w_ixT, ↓w_tupL, ↓w_tupT, ↓w_listL, ↓w_listT, ↓kS_nx, ↓kS_bk, ↓kS_rt, ↓wS_nx, ↓wS_bk, ↓wS_seq, ↓kSt_fz, ↓kSt_fr, ↓wS_set, ↓kR_fz, ↓kR_fr, ↓wS_ret, ↓wS_retN, ↓wS_drop, ↓wS_if, ↓kAg_val, ↓wS_aug, ↓wG_N, ↓wG_T, ↓wGs_nil, ↓wGs_cons, ↓kIt_L, ↓kIt_T, ↓wI_seq, ↓kG1_i, ↓wI_rg1, ↓kG2_i, ↓wI_rg2, ↓wS_for, ↓wS_while, ↓kAz_fz, ↓wS_asg, ↓kL_nx, ↓kL_bk, ↓kL_rt, ↓wE_comp, ↓wU_nil, ↓wU_io, ↓wU_val, ↓kFn_fz, ↓kFn_fr, ↓kFn_nx, ↓wM_append, ↓wM_pop, ↓wM_rev, ↓wM_ins, ↓wM_popAt, ↓kMt_own, ↓kMt_io, ↓wE_mut, ↓wE_mut0, ↓kSi_i, ↓kSo_fz, ↓wS_store, pl_1, pl_2, wipe_1, wipe_2, unw_1, unw_2, List.getD_cons_zero, List.getD_cons_succ, List.set_cons_zero, List.set_cons_succ, List.cons_append, List.nil_append, List.replicate_succ, List.replicate_zero, Nat.reduceSub, Nat.reduceAdd, Nat.reduceLT, plain_no, plain_val, plain_ov, Int.natCast_zero, Int.ofNat_zero, Int.cast_ofNat_Int, decide_eq_true_eq, decide_eq_false_iff_not, Bool.not_eq_true', Bool.not_eq_false', Bool.not_true, Bool.not_false, if_true, if_false, true_and, and_true, forall_const, decide_true, decide_false, Int.toNat_natCast, Int.reduceEq, Int.reduceNe, Int.reduceLT, Int.reduceLE, Int.zero_add, implies_true, true_implies, not_true_eq_false, not_false_eq_true, false_implies, false_and, and_false, reduceCtorEq, ite_true, ite_false, eq_self, List.length_cons, List.length_nil, Int.zero_add, List.length_map, fmod_nat, e1, e2, e3, e4, ne_eq]
    have hd : divOk 1000 = true := by decide
    refine ⟨by decide, fun hA => ⟨fun hB => ⟨hz _, hd, szB_of (by rw [List.length_map]; omega), l ++ [(rs[i % cs.length]'(by omega)).fmod 1000], some (.int i), some (.int (i % cs.length : Nat)), o3, rs.set (i % cs.length) ((rs[i % cs.length]'(by omega)).fdiv 1000), by rw [List.length_append, hl1]; rfl, by rw [List.length_set]; exact hrs, ?_⟩, fun hB => ?_⟩, fun hA => ?_⟩
    · rw [List.map_append, List.map_set]; rfl
    · exact sec _ ⟨hz _, l ++ [_], some _, some _, some _, rs, by rw [List.length_append, hl1]; rfl, hrs, by rw [List.map_append]; rfl⟩
    · exact sec _ ⟨hz _, l ++ [_], some _, some _, some _, rs, by rw [List.length_append, hl1]; rfl, hrs, by rw [List.map_append]; rfl⟩
  · rintro _ ⟨l, o1, o2, o3, rs, hl1, hrs, rfl⟩
    exact h l o1 o2 o3 rs hl1
theorem draws_end {cs : List Int} {a b : D} {many : Nat} (hm : many ≤ 100000) {Q : RV × List D → Prop} (h : ∀ l : Dr, Q (.fr l.d, [])) {o1 o2 o3 : Option D} {rs l : List Int} (hl : l.length = many) :
    kS (sSeq (sDrop (fMut0 4 mReverse)) (sRet (fM 4))) (kFn [.val a, .val b] Q) .nx [.val a, .val b, .own (.list (cs.map .int)), .own (.list (rs.map .int)), .own (.list (l.map .int)), ov o1, ov o2, ov o3, .no] := by
  simp only [↓wO_some, ↓wO_none, ↓wSl_0, ↓wSl_s, ↓wP_0, ↓wP_s, ↓kW_no, ↓kW_val, ↓kW_own, ↓kW_ov, ↓wO_setSlot, ↓wE_C, ↓kB_val, ↓kB_own, ↓kB_io, ↓wE_B, ↓kV_val, ↓kV_own, ↓wE_V, ↓kM_val, ↓kM_own, ↓wE_M, ↓kF_fz, ↓kF_bw, ↓kF_fr, ↓wE_F, ↓wR_fz, ↓kCt_val, ↓kCt_own, ↓kCt_io, ↓wR_bw, ↓wE_bin, ↓wE_un, ↓wA_nil, ↓kA_fz, ↓kA_bw, ↓kA_fr, ↓wA_cons, ↓wRs_nil, ↓wRs_cons, ↓wE_args, ↓wZ_nil, ↓wZ_cons, ↓kSz_0, ↓kSz_1, ↓kSz_2, ↓kSz_3, ↓kSz_4, ↓kSz_5, ↓kSz_6, ↓kSz_7, ↓kSz_8, ↓wE_tup, ↓wE_lst, ↓kT_bool, ↓wT_tst, ↓wT_and, ↓wT_or, ↓wT_not, ↓wT_yes, ↓wE_bool, ↓wE_if, ↓kAs_val, ↓kAs_own, ↓kAs_io, ↓wAs_nil, ↓wAs_fz, ↓wAs_bw, ↓kOut_nil, ↓kOut_nilr, ↓kPut_own, ↓kPut_io, ↓kOut_one, ↓kOut_oner, ↓wE_call, ↓w_add, ↓w_sub, ↓w_mul, ↓w_mulI, ↓w_fdiv, ↓w_mod, ↓w_neg, ↓w_lt, ↓w_le, ↓w_gt, ↓w_ge, ↓w_eq, ↓w_ne, ↓w_abs, ↓w_min2, ↓w_max2, ↓w_int, ↓w_intb, ↓w_pow, ↓w_lenL, ↓w_lenT, ↓w_ixL, ↓w_ixT, ↓w_tupL, ↓w_tupT, ↓w_listL, ↓w_listT, ↓kS_nx, ↓kS_bk, ↓kS_rt, ↓wS_nx, ↓wS_bk, ↓wS_seq, ↓kSt_fz, ↓kSt_fr, ↓wS_set, ↓kR_fz, ↓kR_fr, ↓wS_ret, ↓wS_retN, ↓wS_drop, ↓wS_if, ↓kAg_val, ↓wS_aug, ↓wG_N, ↓wG_T, ↓wGs_nil, ↓wGs_cons, ↓kIt_L, ↓kIt_T, ↓wI_seq, ↓kG1_i, ↓wI_rg1, ↓kG2_i, ↓wI_rg2, ↓wS_for, ↓wS_while, ↓kAz_fz, ↓wS_asg, ↓kL_nx, ↓kL_bk, ↓kL_rt, ↓wE_comp, ↓wU_nil, ↓wU_io, ↓wU_val, ↓kFn_fz, ↓kFn_fr, ↓kFn_nx, ↓wM_append, ↓wM_pop, ↓wM_rev, ↓wM_ins, ↓wM_popAt, ↓kMt_own, ↓kMt_io, ↓wE_mut, ↓wE_mut0, ↓kSi_i, ↓kSo_fz, ↓wS_store, pl_1, pl_2, wipe_1, wipe_2, unw_1, unw_2, List.getD_cons_zero, List.getD_cons_succ, List.set_cons_zero, List.set_cons_succ, List.cons_append, List.nil_append, List.replicate_succ, List.replicate_zero, Nat.reduceSub, Nat.reduceAdd, Nat.reduceLT, plain_no, plain_val, plain_ov, Int.natCast_zero, Int.ofNat_zero, Int.cast_ofNat_Int, decide_eq_true_eq, decide_eq_false_iff_not, Bool.not_eq_true', Bool.not_eq_false', Bool.not_true, Bool.not_false, if_true, if_false, true_and, and_true, forall_const, decide_true, decide_false, Int.toNat_natCast, Int.reduceEq, Int.reduceNe, Int.reduceLT, Int.reduceLE, Int.zero_add, implies_true, true_implies, not_true_eq_false, not_false_eq_true, false_implies, false_and, and_false, reduceCtorEq, ite_true, ite_false, eq_self, List.length_cons, List.length_nil]
  refine ⟨szB_of (by rw [List.length_reverse, List.length_map]; omega), ?_⟩
  have := h ⟨l.reverse, by rw [List.length_reverse]; omega⟩
  unfold Dr.d at this
  rw [List.map_reverse] at this
  exact this
theorem drawsA_spec {ns : List Int} (hn : ns.length ≤ 63) {many : Nat} (hm : many ≤ 100000) {Q : RV × List D → Prop} (h : ∀ l : Dr, Q (.fr l.d, [])) : wO (F_drawsA [.val (.list (ns.map .int)), .val (.int many)]) Q := by
  refine wO_fn rfl ?_
  unfold B_drawsA
  simp only [↓wO_some, ↓wO_none, ↓wSl_0, ↓wSl_s, ↓wP_0, ↓wP_s, ↓kW_no, ↓kW_val, ↓kW_own, ↓kW_ov, ↓wO_setSlot, ↓wE_C, ↓kB_val, ↓kB_own, ↓kB_io, ↓wE_B, ↓kV_val, ↓kV_own, ↓wE_V, ↓kM_val, ↓kM_own, ↓wE_M, ↓kF_fz, ↓kF_bw, ↓kF_fr, ↓wE_F, ↓wR_fz, ↓kCt_val, ↓kCt_own, ↓kCt_io, ↓wR_bw, ↓wE_bin, ↓wE_un, ↓wA_nil, ↓kA_fz, ↓kA_bw, ↓kA_fr, ↓wA_cons, ↓wRs_nil, ↓wRs_cons, ↓wE_args, ↓wZ_nil, ↓wZ_cons, ↓kSz_0, ↓kSz_1, ↓kSz_2, ↓kSz_3, ↓kSz_4, ↓kSz_5, ↓kSz_6, ↓kSz_7, ↓kSz_8, ↓wE_tup, ↓wE_lst, ↓kT_bool, ↓wT_tst, ↓wT_and, ↓wT_or, ↓wT_not, ↓wT_yes, ↓wE_bool, ↓wE_if, ↓kAs_val, ↓kAs_own, ↓kAs_io, ↓wAs_nil, ↓wAs_fz, ↓wAs_bw, ↓kOut_nil, ↓kOut_nilr, ↓kPut_own, ↓kPut_io, ↓kOut_one, ↓kOut_oner, ↓wE_call, ↓w_add, ↓w_sub, ↓w_mul, ↓w_mulI, ↓w_fdiv, ↓w_mod, ↓w_neg, ↓w_lt, ↓w_le, ↓w_gt, ↓w_ge, ↓w_eq, ↓w_ne, ↓w_abs, ↓w_min2, ↓w_max2, ↓w_int, ↓w_intb, ↓w_pow, ↓w_lenL, ↓w_lenT, ↓w_ixL, ↓w_ixT, ↓w_tupL, ↓w_tupT, ↓w_listL, ↓w_listT, ↓kS_nx, ↓kS_bk, ↓kS_rt, ↓wS_nx, ↓wS_bk, ↓wS_seq, ↓kSt_fz, ↓kSt_fr, ↓wS_set, ↓kR_fz, ↓kR_fr, ↓wS_ret, ↓wS_retN, ↓wS_drop, ↓wS_if, ↓kAg_val, ↓wS_aug, ↓wG_N, ↓wG_T, ↓wGs_nil, ↓wGs_cons, ↓kIt_L, ↓kIt_T, ↓wI_seq, ↓kG1_i, ↓wI_rg1, ↓kG2_i, ↓wI_rg2, ↓wS_for, ↓wS_while, ↓kAz_fz, ↓wS_asg, ↓kL_nx, ↓kL_bk, ↓kL_rt, ↓wE_comp, ↓wU_nil, ↓wU_io, ↓wU_val, ↓kFn_fz, ↓kFn_fr, ↓kFn_nx, ↓wM_append, ↓wM_pop, ↓wM_rev, ↓wM_ins, ↓wM_popAt, ↓kMt_own, ↓kMt_io, ↓wE_mut, ↓wE_mut0, ↓kSi_i, ↓kSo_fz, ↓wS_store, pl_1, pl_2, wipe_1, wipe_2, unw_1, unw_2, List.getD_cons_zero, List.getD_cons_succ, List.set_cons_zero, List.set_cons_succ, List.cons_append, List.nil_append, List.replicate_succ, List.replicate_zero, Nat.reduceSub, Nat.reduceAdd, Nat.reduceLT, plain_no, plain_val, plain_ov, Int.natCast_zero, Int.ofNat_zero, Int.cast_ofNat_Int, decide_eq_true_eq, decide_eq_false_iff_not, Bool.not_eq_true', Bool.not_eq_false', Bool.not_true, Bool.not_false, if_true, if_false, true_and, and_true, forall_const, decide_true, decide_false, Int.toNat_natCast, Int.reduceEq, Int.reduceNe, Int.reduceLT, Int.reduceLE, Int.zero_add, implies_true, true_implies, not_true_eq_false, not_false_eq_true, false_implies, false_and, and_false, reduceCtorEq, ite_true, ite_false, eq_self, List.length_cons, List.length_nil]
  refine wC_each PyData.int PyData.int ns (fun x hx => ?_) ?_
  · simp only [↓wO_some, ↓wO_none, ↓wSl_0, ↓wSl_s, ↓wP_0, ↓wP_s, ↓kW_no, ↓kW_val, ↓kW_own, ↓kW_ov, ↓wO_setSlot, ↓wE_C, ↓kB_val, ↓kB_own, ↓kB_io, ↓wE_B, ↓kV_val, ↓kV_own, ↓wE_V, ↓kM_val, ↓kM_own, ↓wE_M, ↓kF_fz, ↓kF_bw, ↓kF_fr, ↓wE_F, ↓wR_fz, ↓kCt_val, ↓kCt_own, ↓kCt_io, ↓wR_bw, ↓wE_bin, ↓wE_un, ↓wA_nil, ↓kA_fz, ↓kA_bw, ↓kA_fr, ↓wA_cons, ↓wRs_nil, ↓wRs_cons, ↓wE_args, ↓wZ_nil, ↓wZ_cons, ↓kSz_0, ↓kSz_1, ↓kSz_2, ↓kSz_3, ↓kSz_4, ↓kSz_5, ↓kSz_6, ↓kSz_7, ↓kSz_8, ↓wE_tup, ↓wE_lst, ↓kT_bool, ↓wT_tst, ↓wT_and, ↓wT_or, ↓wT_not, ↓wT_yes, ↓wE_bool, ↓wE_if, ↓kAs_val, ↓kAs_own, ↓kAs_io, ↓wAs_nil, ↓wAs_fz, ↓wAs_bw, ↓kOut_nil, ↓kOut_nilr, ↓kPut_own, ↓kPut_io, ↓kOut_one, ↓kOut_oner, ↓wE_call, ↓w_add, ↓w_sub, ↓w_mul, ↓w_mulI, ↓w_fdiv, ↓w_mod, ↓w_neg, ↓w_lt, ↓w_le, ↓w_gt, ↓w_ge, ↓w_eq, ↓w_ne, ↓w_abs, ↓w_min2, ↓w_max2, ↓w_int, ↓w_intb, ↓w_pow, ↓w_lenL, ↓w_lenT, ↓w_ixL, ↓w_ixT, ↓w_tupL, ↓w_tupT, ↓w_listL, ↓w_listT, ↓kS_nx, ↓kS_bk, ↓kS_rt, ↓wS_nx, ↓wS_bk, ↓wS_seq, ↓kSt_fz, ↓kSt_fr, ↓wS_set, ↓kR_fz, ↓kR_fr, ↓wS_ret, ↓wS_retN, ↓wS_drop, ↓wS_if, ↓kAg_val, ↓wS_aug, ↓wG_N, ↓wG_T, ↓wGs_nil, ↓wGs_cons, ↓kIt_L, ↓kIt_T, ↓wI_seq, ↓kG1_i, ↓wI_rg1, ↓kG2_i, ↓wI_rg2, ↓wS_for, ↓wS_while, ↓kAz_fz, ↓wS_asg, ↓kL_nx, ↓kL_bk, ↓kL_rt, ↓wE_comp, ↓wU_nil, ↓wU_io, ↓wU_val, ↓kFn_fz, ↓kFn_fr, ↓kFn_nx, ↓wM_append, ↓wM_pop, ↓wM_rev, ↓wM_ins, ↓wM_popAt, ↓kMt_own, ↓kMt_io, ↓wE_mut, ↓wE_mut0, ↓kSi_i, ↓kSo_fz, ↓wS_store, pl_1, pl_2, wipe_1, wipe_2, unw_1, unw_2, List.getD_cons_zero, List.getD_cons_succ, List.set_cons_zero, List.set_cons_succ, List.cons_append, List.nil_append, List.replicate_succ, List.replicate_zero, Nat.reduceSub, Nat.reduceAdd, Nat.reduceLT, plain_no, plain_val, plain_ov, Int.natCast_zero, Int.ofNat_zero, Int.cast_ofNat_Int, decide_eq_true_eq, decide_eq_false_iff_not, Bool.not_eq_true', Bool.not_eq_false', Bool.not_true, Bool.not_false, if_true, if_false, true_and, and_true, forall_const, decide_true, decide_false, Int.toNat_natCast, Int.reduceEq, Int.reduceNe, Int.reduceLT, Int.reduceLE, Int.zero_add, implies_true, true_implies, not_true_eq_false, not_false_eq_true, false_implies, false_and, and_false, reduceCtorEq, ite_true, ite_false, eq_self, List.length_cons, List.length_nil]
  refine ⟨szB_of (by rw [List.length_map]; omega), ?_⟩
  simp only [↓wO_some, ↓wO_none, ↓wSl_0, ↓wSl_s, ↓wP_0, ↓wP_s, ↓kW_no, ↓kW_val, ↓kW_own, ↓kW_ov, ↓wO_setSlot, ↓wE_C, ↓kB_val, ↓kB_own, ↓kB_io, ↓wE_B, ↓kV_val, ↓kV_own, ↓wE_V, ↓kM_val, ↓kM_own, ↓wE_M, ↓kF_fz, ↓kF_bw, ↓kF_fr, ↓wE_F, ↓wR_fz, ↓kCt_val, ↓kCt_own, ↓kCt_io, ↓wR_bw, ↓wE_bin, ↓wE_un, ↓wA_nil, ↓kA_fz, ↓kA_bw, ↓kA_fr, ↓wA_cons, ↓wRs_nil, ↓wRs_cons, ↓wE_args, ↓wZ_nil, ↓wZ_cons, ↓kSz_0, ↓kSz_1, ↓kSz_2, ↓kSz_3, ↓kSz_4, ↓kSz_5, ↓kSz_6, ↓kSz_7, ↓kSz_8, ↓wE_tup, ↓wE_lst, ↓kT_bool, ↓wT_tst, ↓wT_and, ↓wT_or, ↓wT_not, ↓wT_yes, ↓wE_bool, ↓wE_if, ↓kAs_val, ↓kAs_own, ↓kAs_io, ↓wAs_nil, ↓wAs_fz, ↓wAs_bw, ↓kOut_nil, ↓kOut_nilr, ↓kPut_own, ↓kPut_io, ↓kOut_one, ↓kOut_oner, ↓wE_call, ↓w_add, ↓w_sub, ↓w_mul, ↓w_mulI, ↓w_fdiv, ↓w_mod, ↓w_neg, ↓w_lt, ↓w_le, ↓w_gt, ↓w_ge, ↓w_eq, ↓w_ne, ↓w_abs, ↓w_min2, ↓w_max2, ↓w_int, ↓w_intb, ↓w_pow, ↓w_lenL, ↓w_lenT, ↓w_ixL, ↓w_ixT, ↓w_tupL, ↓w_tupT, ↓w_listL, ↓w_listT, ↓kS_nx, ↓kS_bk, ↓kS_rt, ↓wS_nx, ↓wS_bk, ↓wS_seq, ↓kSt_fz, ↓kSt_fr, ↓wS_set, ↓kR_fz, ↓kR_fr, ↓wS_ret, ↓wS_retN, ↓wS_drop, ↓wS_if, ↓kAg_val, ↓wS_aug, ↓wG_N, ↓wG_T, ↓wGs_nil, ↓wGs_cons, ↓kIt_L, ↓kIt_T, ↓wI_seq, ↓kG1_i, ↓wI_rg1, ↓kG2_i, ↓wI_rg2, ↓wS_for, ↓wS_while, ↓kAz_fz, ↓wS_asg, ↓kL_nx, ↓kL_bk, ↓kL_rt, ↓wE_comp, ↓wU_nil, ↓wU_io, ↓wU_val, ↓kFn_fz, ↓kFn_fr, ↓kFn_nx, ↓wM_append, ↓wM_pop, ↓wM_rev, ↓wM_ins, ↓wM_popAt, ↓kMt_own, ↓kMt_io, ↓wE_mut, ↓wE_mut0, ↓kSi_i, ↓kSo_fz, ↓wS_store, pl_1, pl_2, wipe_1, wipe_2, unw_1, unw_2, List.getD_cons_zero, List.getD_cons_succ, List.set_cons_zero, List.set_cons_succ, List.cons_append, List.nil_append, List.replicate_succ, List.replicate_zero, Nat.reduceSub, Nat.reduceAdd, Nat.reduceLT, plain_no, plain_val, plain_ov, Int.natCast_zero, Int.ofNat_zero, Int.cast_ofNat_Int, decide_eq_true_eq, decide_eq_false_iff_not, Bool.not_eq_true', Bool.not_eq_false', Bool.not_true, Bool.not_false, if_true, if_false, true_and, and_true, forall_const, decide_true, decide_false, Int.toNat_natCast, Int.reduceEq, Int.reduceNe, Int.reduceLT, Int.reduceLE, Int.zero_add, implies_true, true_implies, not_true_eq_false, not_false_eq_true, false_implies, false_and, and_false, reduceCtorEq, ite_true, ite_false, eq_self, List.length_cons, List.length_nil, ↓w_addLL, ↓w_mulLI]
  obtain ⟨cs, e, hc0, hc⟩ : ∃ cs : List Int, List.map PyData.int ns ++ (List.replicate (if ((List.map PyData.int ns).length : Int) = 0 then (1 : Int) else 0).toNat [PyData.int 0]).flatten = cs.map PyData.int ∧ cs ≠ [] ∧ cs.length ≤ 64 := by
    cases ns with
    | nil => exact ⟨[0], rfl, by decide, by decide⟩
    | cons x r => exact ⟨x :: r, by rw [if_neg (by rw [List.map_cons, List.length_cons]; omega)]; exact List.append_nil _, by simp, by omega⟩
  have hL := congrArg List.length e
  rw [List.length_append, List.length_map, List.length_map] at hL
  rw [List.length_map] at *
  rw [e]
  refine ⟨by split <;> decide, szB_of (by omega), szB_of (by rw [List.length_map]; omega), draws_loop hc0 hc hm fun l o1 o2 o3 rs hl => draws_end hm h hl⟩
theorem drawsB_spec {ns : List Int} (hn : ns.length ≤ 63) {many : Nat} (hm : many ≤ 100000) {Q : RV × List D → Prop} (h : ∀ l : Dr, Q (.fr l.d, [])) : wO (F_drawsB [.val (.list (ns.map .int)), .val (.int many)]) Q := by
  refine wO_fn rfl ?_
  unfold B_drawsB
  simp only [↓wO_some, ↓wO_none, ↓wSl_0, ↓wSl_s, ↓wP_0, ↓wP_s, ↓kW_no, ↓kW_val, ↓kW_own, ↓kW_ov, ↓wO_setSlot, ↓wE_C, ↓kB_val, ↓kB_own, ↓kB_io, ↓wE_B, ↓kV_val, ↓kV_own, ↓wE_V, ↓kM_val, ↓kM_own, ↓wE_M, ↓kF_fz, ↓kF_bw, ↓kF_fr, ↓wE_F, ↓wR_fz, ↓kCt_val, ↓kCt_own, ↓kCt_io, ↓wR_bw, ↓wE_bin, ↓wE_un, ↓wA_nil, ↓kA_fz, ↓kA_bw, ↓kA_fr, ↓wA_cons, ↓wRs_nil, ↓wRs_cons, ↓wE_args, ↓wZ_nil, ↓wZ_cons, ↓kSz_0, ↓kSz_1, ↓kSz_2, ↓kSz_3, ↓kSz_4, ↓kSz_5, ↓kSz_6, ↓kSz_7, ↓kSz_8, ↓wE_tup, ↓wE_lst, ↓kT_bool, ↓wT_tst, ↓wT_and, ↓wT_or, ↓wT_not, ↓wT_yes, ↓wE_bool, ↓wE_if, ↓kAs_val, ↓kAs_own, ↓kAs_io, ↓wAs_nil, ↓wAs_fz, ↓wAs_bw, ↓kOut_nil, ↓kOut_nilr, ↓kPut_own, ↓kPut_io, ↓kOut_one, ↓kOut_oner, ↓wE_call, ↓w_add, ↓w_sub, ↓w_mul, ↓w_mulI, ↓w_fdiv, ↓w_mod, ↓w_neg, ↓w_lt, ↓w_le, ↓w_gt, ↓w_ge, ↓w_eq, ↓w_ne, ↓w_abs, ↓w_min2, ↓w_max2, ↓w_int, ↓w_intb, ↓w_pow, ↓w_lenL, ↓w_lenT, ↓w_ixL, ↓w_ixT, ↓w_tupL, ↓w_tupT, ↓w_listL, ↓w_listT, ↓kS_nx, ↓kS_bk, ↓kS_rt, ↓wS_nx, ↓wS_bk, ↓wS_seq, ↓kSt_fz, ↓kSt_fr, ↓wS_set, ↓kR_fz, ↓kR_fr, ↓wS_ret, ↓wS_retN, ↓wS_drop, ↓wS_if, ↓kAg_val, ↓wS_aug, ↓wG_N, ↓wG_T, ↓wGs_nil, ↓wGs_cons, ↓kIt_L, ↓kIt_T, ↓wI_seq, ↓kG1_i, ↓wI_rg1, ↓kG2_i, ↓wI_rg2, ↓wS_for, ↓wS_while, ↓kAz_fz, ↓wS_asg, ↓kL_nx, ↓kL_bk, ↓kL_rt, ↓wE_comp, ↓wU_nil, ↓wU_io, ↓wU_val, ↓kFn_fz, ↓kFn_fr, ↓kFn_nx, ↓wM_append, ↓wM_pop, ↓wM_rev, ↓wM_ins, ↓wM_popAt, ↓kMt_own, ↓kMt_io, ↓wE_mut, ↓wE_mut0, ↓kSi_i, ↓kSo_fz, ↓wS_store, pl_1, pl_2, wipe_1, wipe_2, unw_1, unw_2, List.getD_cons_zero, List.getD_cons_succ, List.set_cons_zero, List.set_cons_succ, List.cons_append, List.nil_append, List.replicate_succ, List.replicate_zero, Nat.reduceSub, Nat.reduceAdd, Nat.reduceLT, plain_no, plain_val, plain_ov, Int.natCast_zero, Int.ofNat_zero, Int.cast_ofNat_Int, decide_eq_true_eq, decide_eq_false_iff_not, Bool.not_eq_true', Bool.not_eq_false', Bool.not_true, Bool.not_false, if_true, if_false, true_and, and_true, forall_const, decide_true, decide_false, Int.toNat_natCast, Int.reduceEq, Int.reduceNe, Int.reduceLT, Int.reduceLE, Int.zero_add, implies_true, true_implies, not_true_eq_false, not_false_eq_true, false_implies, false_and, and_false, reduceCtorEq, ite_true, ite_false, eq_self, List.length_cons, List.length_nil]
  refine wC_each PyData.int PyData.int ns (fun x hx => ?_) ?_
  · simp only [↓wO_some, ↓wO_none, ↓wSl_0, ↓wSl_s, ↓wP_0, ↓wP_s, ↓kW_no, ↓kW_val, ↓kW_own, ↓kW_ov, ↓wO_setSlot, ↓wE_C, ↓kB_val, ↓kB_own, ↓kB_io, ↓wE_B, ↓kV_val, ↓kV_own, ↓wE_V, ↓kM_val, ↓kM_own, ↓wE_M, ↓kF_fz, ↓kF_bw, ↓kF_fr, ↓wE_F, ↓wR_fz, ↓kCt_val, ↓kCt_own, ↓kCt_io, ↓wR_bw, ↓wE_bin, ↓wE_un, ↓wA_nil, ↓kA_fz, ↓kA_bw, ↓kA_fr, ↓wA_cons, ↓wRs_nil, ↓wRs_cons, ↓wE_args, ↓wZ_nil, ↓wZ_cons, ↓kSz_0, ↓kSz_1, ↓kSz_2, ↓kSz_3, ↓kSz_4, ↓kSz_5, ↓kSz_6, ↓kSz_7, ↓kSz_8, ↓wE_tup, ↓wE_lst, ↓kT_bool, ↓wT_tst, ↓wT_and, ↓wT_or, ↓wT_not, ↓wT_yes, ↓wE_bool, ↓wE_if, ↓kAs_val, ↓kAs_own, ↓kAs_io, ↓wAs_nil, ↓wAs_fz, ↓wAs_bw, ↓kOut_nil, ↓kOut_nilr, ↓kPut_own, ↓kPut_io, ↓kOut_one, ↓kOut_oner, ↓wE_call, ↓w_add, ↓w_sub, ↓w_mul, ↓w_mulI, ↓w_fdiv, ↓w_mod, ↓w_neg, ↓w_lt, ↓w_le, ↓w_gt, ↓w_ge, ↓w_eq, ↓w_ne, ↓w_abs, ↓w_min2, ↓w_max2, ↓w_int, ↓w_intb, ↓w_pow, ↓w_lenL, ↓w_lenT, ↓w_ixL, ↓w_ixT, ↓w_tupL, ↓w_tupT, ↓w_listL, ↓w_listT, ↓kS_nx, ↓kS_bk, ↓kS_rt, ↓wS_nx, ↓wS_bk, ↓wS_seq, ↓kSt_fz, ↓kSt_fr, ↓wS_set, ↓kR_fz, ↓kR_fr, ↓wS_ret, ↓wS_retN, ↓wS_drop, ↓wS_if, ↓kAg_val, ↓wS_aug, ↓wG_N, ↓wG_T, ↓wGs_nil, ↓wGs_cons, ↓kIt_L, ↓kIt_T, ↓wI_seq, ↓kG1_i, ↓wI_rg1, ↓kG2_i, ↓wI_rg2, ↓wS_for, ↓wS_while, ↓kAz_fz, ↓wS_asg, ↓kL_nx, ↓kL_bk, ↓kL_rt, ↓wE_comp, ↓wU_nil, ↓wU_io, ↓wU_val, ↓kFn_fz, ↓kFn_fr, ↓kFn_nx, ↓wM_append, ↓wM_pop, ↓wM_rev, ↓wM_ins, ↓wM_popAt, ↓kMt_own, ↓kMt_io, ↓wE_mut, ↓wE_mut0, ↓kSi_i, ↓kSo_fz, ↓wS_store, pl_1, pl_2, wipe_1, wipe_2, unw_1, unw_2, List.getD_cons_zero, List.getD_cons_succ, List.set_cons_zero, List.set_cons_succ, List.cons_append, List.nil_append, List.replicate_succ, List.replicate_zero, Nat.reduceSub, Nat.reduceAdd, Nat.reduceLT, plain_no, plain_val, plain_ov, Int.natCast_zero, Int.ofNat_zero, Int.cast_ofNat_Int, decide_eq_true_eq, decide_eq_false_iff_not, Bool.not_eq_true', Bool.not_eq_false', Bool.not_true, Bool.not_false, if_true, if_false, true_and, and_true, forall_const, decide_true, decide_false, Int.toNat_natCast, Int.reduceEq, Int.reduceNe, Int.reduceLT, Int.reduceLE, Int.zero_add, implies_true, true_implies, not_true_eq_false, not_false_eq_true, false_implies, false_and, and_false, reduceCtorEq, ite_true, ite_false, eq_self, List.length_cons, List.length_nil]
  refine ⟨szB_of (by rw [List.length_map]; omega), ?_⟩
  simp only [↓wO_some, ↓wO_none, ↓wSl_0, ↓wSl_s, ↓wP_0, ↓wP_s, ↓kW_no, ↓kW_val, ↓kW_own, ↓kW_ov, ↓wO_setSlot, ↓wE_C, ↓kB_val, ↓kB_own, ↓kB_io, ↓wE_B, ↓kV_val, ↓kV_own, ↓wE_V, ↓kM_val, ↓kM_own, ↓wE_M, ↓kF_fz, ↓kF_bw, ↓kF_fr, ↓wE_F, ↓wR_fz, ↓kCt_val, ↓kCt_own, ↓kCt_io, ↓wR_bw, ↓wE_bin, ↓wE_un, ↓wA_nil, ↓kA_fz, ↓kA_bw, ↓kA_fr, ↓wA_cons, ↓wRs_nil, ↓wRs_cons, ↓wE_args, ↓wZ_nil, ↓wZ_cons, ↓kSz_0, ↓kSz_1, ↓kSz_2, ↓kSz_3, ↓kSz_4, ↓kSz_5, ↓kSz_6, ↓kSz_7, ↓kSz_8, ↓wE_tup, ↓wE_lst, ↓kT_bool, ↓wT_tst, ↓wT_and, ↓wT_or, ↓wT_not, ↓wT_yes, ↓wE_bool, ↓wE_if, ↓kAs_val, ↓kAs_own, ↓kAs_io, ↓wAs_nil, ↓wAs_fz, ↓wAs_bw, ↓kOut_nil, ↓kOut_nilr, ↓kPut_own, ↓kPut_io, ↓kOut_one, ↓kOut_oner, ↓wE_call, ↓w_add, ↓w_sub, ↓w_mul, ↓w_mulI, ↓w_fdiv, ↓w_mod, ↓w_neg, ↓w_lt, ↓w_le, ↓w_gt, ↓w_ge, ↓w_eq, ↓w_ne, ↓w_abs, ↓w_min2, ↓w_max2, ↓w_int, ↓w_intb, ↓w_pow, ↓w_lenL, ↓w_lenT, ↓w_ixL, ↓w_ixT, ↓w_tupL, ↓w_tupT, ↓w_listL, ↓w_listT, ↓kS_nx, ↓kS_bk, ↓kS_rt, ↓wS_nx, ↓wS_bk, ↓wS_seq, ↓kSt_fz, ↓kSt_fr, ↓wS_set, ↓kR_fz, ↓kR_fr, ↓wS_ret, ↓wS_retN, ↓wS_drop, ↓wS_if, ↓kAg_val, ↓wS_aug, ↓wG_N, ↓wG_T, ↓wGs_nil, ↓wGs_cons, ↓kIt_L, ↓kIt_T, ↓wI_seq, ↓kG1_i, ↓wI_rg1, ↓kG2_i, ↓wI_rg2, ↓wS_for, ↓wS_while, ↓kAz_fz, ↓wS_asg, ↓kL_nx, ↓kL_bk, ↓kL_rt, ↓wE_comp, ↓wU_nil, ↓wU_io, ↓wU_val, ↓kFn_fz, ↓kFn_fr, ↓kFn_nx, ↓wM_append, ↓wM_pop, ↓wM_rev, ↓wM_ins, ↓wM_popAt, ↓kMt_own, ↓kMt_io, ↓wE_mut, ↓wE_mut0, ↓kSi_i, ↓kSo_fz, ↓wS_store, pl_1, pl_2, wipe_1, wipe_2, unw_1, unw_2, List.getD_cons_zero, List.getD_cons_succ, List.set_cons_zero, List.set_cons_succ, List.cons_append, List.nil_append, List.replicate_succ, List.replicate_zero, Nat.reduceSub, Nat.reduceAdd, Nat.reduceLT, plain_no, plain_val, plain_ov, Int.natCast_zero, Int.ofNat_zero, Int.cast_ofNat_Int, decide_eq_true_eq, decide_eq_false_iff_not, Bool.not_eq_true', Bool.not_eq_false', Bool.not_true, Bool.not_false, if_true, if_false, true_and, and_true, forall_const, decide_true, decide_false, Int.toNat_natCast, Int.reduceEq, Int.reduceNe, Int.reduceLT, Int.reduceLE, Int.zero_add, implies_true, true_implies, not_true_eq_false, not_false_eq_true, false_implies, false_and, and_false, reduceCtorEq, ite_true, ite_false, eq_self, List.length_cons, List.length_nil]
  refine ⟨fun h0 => ?_, fun h0 => ?_⟩
  · have : ns = [] := List.length_eq_zero_iff.mp (by rw [List.length_map] at h0; omega)
    subst this
    simp only [↓wO_some, ↓wO_none, ↓wSl_0, ↓wSl_s, ↓wP_0, ↓wP_s, ↓kW_no, ↓kW_val, ↓kW_own, ↓kW_ov, ↓wO_setSlot, ↓wE_C, ↓kB_val, ↓kB_own, ↓kB_io, ↓wE_B, ↓kV_val, ↓kV_own, ↓wE_V, ↓kM_val, ↓kM_own, ↓wE_M, ↓kF_fz, ↓kF_bw, ↓kF_fr, ↓wE_F, ↓wR_fz, ↓kCt_val, ↓kCt_own, ↓kCt_io, ↓wR_bw, ↓wE_bin, ↓wE_un, ↓wA_nil, ↓kA_fz, ↓kA_bw, ↓kA_fr, ↓wA_cons, ↓wRs_nil, ↓wRs_cons, ↓wE_args, ↓wZ_nil, ↓wZ_cons, ↓kSz_0, ↓kSz_1, ↓kSz_2, ↓kSz_3, ↓kSz_4, ↓kSz_5, ↓kSz_6, ↓kSz_7, ↓kSz_8, ↓wE_tup, ↓wE_lst, ↓kT_bool, ↓wT_tst, ↓wT_and, ↓wT_or, ↓wT_not, ↓wT_yes, ↓wE_bool, ↓wE_if, ↓kAs_val, ↓kAs_own, ↓kAs_io, ↓wAs_nil, ↓wAs_fz, ↓wAs_bw, ↓kOut_nil, ↓kOut_nilr, ↓kPut_own, ↓kPut_io, ↓kOut_one, ↓kOut_oner, ↓wE_call, ↓w_add, ↓w_sub, ↓w_mul, ↓w_mulI, ↓w_fdiv, ↓w_mod, ↓w_neg, ↓w_lt, ↓w_le, ↓w_gt, ↓w_ge, ↓w_eq, ↓w_ne, ↓w_abs, ↓w_min2, ↓w_max2, ↓w_int, ↓w_intb, ↓w_pow, ↓w_lenL, ↓w_lenT, ↓w_ixL, ↓w_ixT, ↓w_tupL, ↓w_tupT, ↓w_listL, ↓w_listT, ↓kS_nx, ↓kS_bk, ↓kS_rt, ↓wS_nx, ↓wS_bk, ↓wS_seq, ↓kSt_fz, ↓kSt_fr, ↓wS_set, ↓kR_fz, ↓kR_fr, ↓wS_ret, ↓wS_retN, ↓wS_drop, ↓wS_if, ↓kAg_val, ↓wS_aug, ↓wG_N, ↓wG_T, ↓wGs_nil, ↓wGs_cons, ↓kIt_L, ↓kIt_T, ↓wI_seq, ↓kG1_i, ↓wI_rg1, ↓kG2_i, ↓wI_rg2, ↓wS_for, ↓wS_while, ↓kAz_fz, ↓wS_asg, ↓kL_nx, ↓kL_bk, ↓kL_rt, ↓wE_comp, ↓wU_nil, ↓wU_io, ↓wU_val, ↓kFn_fz, ↓kFn_fr, ↓kFn_nx, ↓wM_append, ↓wM_pop, ↓wM_rev, ↓wM_ins, ↓wM_popAt, ↓kMt_own, ↓kMt_io, ↓wE_mut, ↓wE_mut0, ↓kSi_i, ↓kSo_fz, ↓wS_store, pl_1, pl_2, wipe_1, wipe_2, unw_1, unw_2, List.getD_cons_zero, List.getD_cons_succ, List.set_cons_zero, List.set_cons_succ, List.cons_append, List.nil_append, List.replicate_succ, List.replicate_zero, Nat.reduceSub, Nat.reduceAdd, Nat.reduceLT, plain_no, plain_val, plain_ov, Int.natCast_zero, Int.ofNat_zero, Int.cast_ofNat_Int, decide_eq_true_eq, decide_eq_false_iff_not, Bool.not_eq_true', Bool.not_eq_false', Bool.not_true, Bool.not_false, if_true, if_false, true_and, and_true, forall_const, decide_true, decide_false, Int.toNat_natCast, Int.reduceEq, Int.reduceNe, Int.reduceLT, Int.reduceLE, Int.zero_add, implies_true, true_implies, not_true_eq_false, not_false_eq_true, false_implies, false_and, and_false, reduceCtorEq, ite_true, ite_false, eq_self, List.length_cons, List.length_nil, List.map_nil]
    exact draws_loop (cs := [0]) (by decide) (by decide) hm fun l o1 o2 o3 rs hl => draws_end hm h hl
  · refine ⟨szB_of (by rw [List.length_map]; omega), draws_loop (cs := ns) (fun z => h0 (by rw [z]; rfl)) (by omega) hm fun l o1 o2 o3 rs hl => draws_end hm h hl⟩
/-! ### cells -/
theorem fmod_nn {x m : Int} (h : 0 < m) : 0 ≤ x.fmod m ∧ x.fmod m < m := ⟨Int.fmod_nonneg_of_pos x h, Int.fmod_lt_of_pos x h⟩
theorem atD_of {α : Type} {e : α → D} {l : List α} {i : Int} (h0 : 0 ≤ i) (h : i < l.length) : atD (l.map e) i = some (e (l[i.toNat]'(by omega))) := atD_map h0 (List.getElem?_eq_getElem _)
theorem sgn_at (c : Int) : wO (atD [.int 1, .int (-1)] (if c < 0 then 1 else 0)) = wO (some (.int (if c < 0 then -1 else 1))) := by
  by_cases h : c < 0
  · rw [if_pos h, if_pos h]; rfl
  · rw [if_neg h, if_neg h]; rfl
theorem cellA_spec {ns : List Int} {a : Int} {Q : RV × List D → Prop} (h : ∀ r : Int, r.natAbs < 10 ^ 28 → Q (.fz (.int r), [])) : wO (F_cellA [.val (.list (ns.map .int)), .val (.int a)]) Q := by
  refine wO_fn rfl ?_
  unfold B_cellA
  simp only [↓wO_some, ↓wO_none, ↓wSl_0, ↓wSl_s, ↓wP_0, ↓wP_s, ↓kW_no, ↓kW_val, ↓kW_own, ↓kW_ov, ↓wO_setSlot, ↓wE_C, ↓kB_val, ↓kB_own, ↓kB_io, ↓wE_B, ↓kV_val, ↓kV_own, ↓wE_V, ↓kM_val, ↓kM_own, ↓wE_M, ↓kF_fz, ↓kF_bw, ↓kF_fr, ↓wE_F, ↓wR_fz, ↓kCt_val, ↓kCt_own, ↓kCt_io, ↓wR_bw, ↓wE_bin, ↓wE_un, ↓wA_nil, ↓kA_fz, ↓kA_bw, ↓kA_fr, ↓wA_cons, ↓wRs_nil, ↓wRs_cons, ↓wE_args, ↓wZ_nil, ↓wZ_cons, ↓kSz_0, ↓kSz_1, ↓kSz_2, ↓kSz_3, ↓kSz_4, ↓kSz_5, ↓kSz_6, ↓kSz_7, ↓kSz_8, ↓wE_tup, ↓wE_lst, ↓kT_bool, ↓wT_tst, ↓wT_and, ↓wT_or, ↓wT_not, ↓wT_yes, ↓wE_bool, ↓wE_if, ↓kAs_val, ↓kAs_own, ↓kAs_io, ↓wAs_nil, ↓wAs_fz, ↓wAs_bw, ↓kOut_nil, ↓kOut_nilr, ↓kPut_own, ↓kPut_io, ↓kOut_one, ↓kOut_oner, ↓wE_call, ↓w_add, ↓w_sub, ↓w_mul, ↓w_mulI, ↓w_fdiv, ↓w_mod, ↓w_neg, ↓w_lt, ↓w_le, ↓w_gt, ↓w_ge, ↓w_eq, ↓w_ne, ↓w_abs, ↓w_min2, ↓w_max2, ↓w_int, ↓w_intb, ↓w_pow, ↓w_lenL, ↓w_lenT, ↓w_ixL, ↓w_ixT, ↓w_tupL, ↓w_tupT, ↓w_listL, ↓w_listT, ↓kS_nx, ↓kS_bk, ↓kS_rt, ↓wS_nx, ↓wS_bk, ↓wS_seq, ↓kSt_fz, ↓kSt_fr, ↓wS_set, ↓kR_fz, ↓kR_fr, ↓wS_ret, ↓wS_retN, ↓wS_drop, ↓wS_if, ↓kAg_val, ↓wS_aug, ↓wG_N, ↓wG_T, ↓wGs_nil, ↓wGs_cons, ↓kIt_L, ↓kIt_T, ↓wI_seq, ↓kG1_i, ↓wI_rg1, ↓kG2_i, ↓wI_rg2, ↓wS_for, ↓wS_while, ↓kAz_fz, ↓wS_asg, ↓kL_nx, ↓kL_bk, ↓kL_rt, ↓wE_comp, ↓wU_nil, ↓wU_io, ↓wU_val, ↓kFn_fz, ↓kFn_fr, ↓kFn_nx, ↓wM_append, ↓wM_pop, ↓wM_rev, ↓wM_ins, ↓wM_popAt, ↓kMt_own, ↓kMt_io, ↓wE_mut, ↓wE_mut0, ↓kSi_i, ↓kSo_fz, ↓wS_store, pl_1, pl_2, wipe_1, wipe_2, unw_1, unw_2, List.getD_cons_zero, List.getD_cons_succ, List.set_cons_zero, List.set_cons_succ, List.cons_append, List.nil_append, List.replicate_succ, List.replicate_zero, Nat.reduceSub, Nat.reduceAdd, Nat.reduceLT, plain_no, plain_val, plain_ov, Int.natCast_zero, Int.ofNat_zero, Int.cast_ofNat_Int, decide_eq_true_eq, decide_eq_false_iff_not, Bool.not_eq_true', Bool.not_eq_false', Bool.not_true, Bool.not_false, if_true, if_false, true_and, and_true, forall_const, decide_true, decide_false, Int.toNat_natCast, Int.reduceEq, Int.reduceNe, Int.reduceLT, Int.reduceLE, Int.zero_add, implies_true, true_implies, not_true_eq_false, not_false_eq_true, false_implies, false_and, and_false, reduceCtorEq, ite_true, ite_false, eq_self, List.length_cons, List.length_nil]
  refine ⟨fun _ => h 0 (by decide), fun h0 => ?_⟩
  rw [List.length_map] at h0
  have hl : (0 : Int) < ns.length := by omega
  have hb := fmod_nn (x := a) hl
  obtain ⟨c, ec⟩ : ∃ c, atD (ns.map PyData.int) (a.fmod ns.length) = some (.int c) := ⟨_, atD_of hb.1 hb.2⟩
  refine ⟨by rw [List.length_map]; omega, ?_⟩
  rw [List.length_map, ec]
  simp only [↓wO_some, ↓wO_none, ↓wSl_0, ↓wSl_s, ↓wP_0, ↓wP_s, ↓kW_no, ↓kW_val, ↓kW_own, ↓kW_ov, ↓wO_setSlot, ↓wE_C, ↓kB_val, ↓kB_own, ↓kB_io, ↓wE_B, ↓kV_val, ↓kV_own, ↓wE_V, ↓kM_val, ↓kM_own, ↓wE_M, ↓kF_fz, ↓kF_bw, ↓kF_fr, ↓wE_F, ↓wR_fz, ↓kCt_val, ↓kCt_own, ↓kCt_io, ↓wR_bw, ↓wE_bin, ↓wE_un, ↓wA_nil, ↓kA_fz, ↓kA_bw, ↓kA_fr, ↓wA_cons, ↓wRs_nil, ↓wRs_cons, ↓wE_args, ↓wZ_nil, ↓wZ_cons, ↓kSz_0, ↓kSz_1, ↓kSz_2, ↓kSz_3, ↓kSz_4, ↓kSz_5, ↓kSz_6, ↓kSz_7, ↓kSz_8, ↓wE_tup, ↓wE_lst, ↓kT_bool, ↓wT_tst, ↓wT_and, ↓wT_or, ↓wT_not, ↓wT_yes, ↓wE_bool, ↓wE_if, ↓kAs_val, ↓kAs_own, ↓kAs_io, ↓wAs_nil, ↓wAs_fz, ↓wAs_bw, ↓kOut_nil, ↓kOut_nilr, ↓kPut_own, ↓kPut_io, ↓kOut_one, ↓kOut_oner, ↓wE_call, ↓w_add, ↓w_sub, ↓w_mul, ↓w_mulI, ↓w_fdiv, ↓w_mod, ↓w_neg, ↓w_lt, ↓w_le, ↓w_gt, ↓w_ge, ↓w_eq, ↓w_ne, ↓w_abs, ↓w_min2, ↓w_max2, ↓w_int, ↓w_intb, ↓w_pow, ↓w_lenL, ↓w_lenT, ↓w_ixL, ↓w_ixT, ↓w_tupL, ↓w_tupT, ↓w_listL, ↓w_listT, ↓kS_nx, ↓kS_bk, ↓kS_rt, ↓wS_nx, ↓wS_bk, ↓wS_seq, ↓kSt_fz, ↓kSt_fr, ↓wS_set, ↓kR_fz, ↓kR_fr, ↓wS_ret, ↓wS_retN, ↓wS_drop, ↓wS_if, ↓kAg_val, ↓wS_aug, ↓wG_N, ↓wG_T, ↓wGs_nil, ↓wGs_cons, ↓kIt_L, ↓kIt_T, ↓wI_seq, ↓kG1_i, ↓wI_rg1, ↓kG2_i, ↓wI_rg2, ↓wS_for, ↓wS_while, ↓kAz_fz, ↓wS_asg, ↓kL_nx, ↓kL_bk, ↓kL_rt, ↓wE_comp, ↓wU_nil, ↓wU_io, ↓wU_val, ↓kFn_fz, ↓kFn_fr, ↓kFn_nx, ↓wM_append, ↓wM_pop, ↓wM_rev, ↓wM_ins, ↓wM_popAt, ↓kMt_own, ↓kMt_io, ↓wE_mut, ↓wE_mut0, ↓kSi_i, ↓kSo_fz, ↓wS_store, pl_1, pl_2, wipe_1, wipe_2, unw_1, unw_2, List.getD_cons_zero, List.getD_cons_succ, List.set_cons_zero, List.set_cons_succ, List.cons_append, List.nil_append, List.replicate_succ, List.replicate_zero, Nat.reduceSub, Nat.reduceAdd, Nat.reduceLT, plain_no, plain_val, plain_ov, Int.natCast_zero, Int.ofNat_zero, Int.cast_ofNat_Int, decide_eq_true_eq, decide_eq_false_iff_not, Bool.not_eq_true', Bool.not_eq_false', Bool.not_true, Bool.not_false, if_true, if_false, true_and, and_true, forall_const, decide_true, decide_false, Int.toNat_natCast, Int.reduceEq, Int.reduceNe, Int.reduceLT, Int.reduceLE, Int.zero_add, implies_true, true_implies, not_true_eq_false, not_false_eq_true, false_implies, false_and, and_false, reduceCtorEq, ite_true, ite_false, eq_self, List.length_cons, List.length_nil]
  refine ⟨by decide, by decide, ?_⟩
  rw [sgn_at]
  simp only [↓wO_some, ↓wO_none, ↓wSl_0, ↓wSl_s, ↓wP_0, ↓wP_s, ↓kW_no, ↓kW_val, ↓kW_own, ↓kW_ov, ↓wO_setSlot, ↓wE_C, ↓kB_val, ↓kB_own, ↓kB_io, ↓wE_B, ↓kV_val, ↓kV_own, ↓wE_V, ↓kM_val, ↓kM_own, ↓wE_M, ↓kF_fz, ↓kF_bw, ↓kF_fr, ↓wE_F, ↓wR_fz, ↓kCt_val, ↓kCt_own, ↓kCt_io, ↓wR_bw, ↓wE_bin, ↓wE_un, ↓wA_nil, ↓kA_fz, ↓kA_bw, ↓kA_fr, ↓wA_cons, ↓wRs_nil, ↓wRs_cons, ↓wE_args, ↓wZ_nil, ↓wZ_cons, ↓kSz_0, ↓kSz_1, ↓kSz_2, ↓kSz_3, ↓kSz_4, ↓kSz_5, ↓kSz_6, ↓kSz_7, ↓kSz_8, ↓wE_tup, ↓wE_lst, ↓kT_bool, ↓wT_tst, ↓wT_and, ↓wT_or, ↓wT_not, ↓wT_yes, ↓wE_bool, ↓wE_if, ↓kAs_val, ↓kAs_own, ↓kAs_io, ↓wAs_nil, ↓wAs_fz, ↓wAs_bw, ↓kOut_nil, ↓kOut_nilr, ↓kPut_own, ↓kPut_io, ↓kOut_one, ↓kOut_oner, ↓wE_call, ↓w_add, ↓w_sub, ↓w_mul, ↓w_mulI, ↓w_fdiv, ↓w_mod, ↓w_neg, ↓w_lt, ↓w_le, ↓w_gt, ↓w_ge, ↓w_eq, ↓w_ne, ↓w_abs, ↓w_min2, ↓w_max2, ↓w_int, ↓w_intb, ↓w_pow, ↓w_lenL, ↓w_lenT, ↓w_ixL, ↓w_ixT, ↓w_tupL, ↓w_tupT, ↓w_listL, ↓w_listT, ↓kS_nx, ↓kS_bk, ↓kS_rt, ↓wS_nx, ↓wS_bk, ↓wS_seq, ↓kSt_fz, ↓kSt_fr, ↓wS_set, ↓kR_fz, ↓kR_fr, ↓wS_ret, ↓wS_retN, ↓wS_drop, ↓wS_if, ↓kAg_val, ↓wS_aug, ↓wG_N, ↓wG_T, ↓wGs_nil, ↓wGs_cons, ↓kIt_L, ↓kIt_T, ↓wI_seq, ↓kG1_i, ↓wI_rg1, ↓kG2_i, ↓wI_rg2, ↓wS_for, ↓wS_while, ↓kAz_fz, ↓wS_asg, ↓kL_nx, ↓kL_bk, ↓kL_rt, ↓wE_comp, ↓wU_nil, ↓wU_io, ↓wU_val, ↓kFn_fz, ↓kFn_fr, ↓kFn_nx, ↓wM_append, ↓wM_pop, ↓wM_rev, ↓wM_ins, ↓wM_popAt, ↓kMt_own, ↓kMt_io, ↓wE_mut, ↓wE_mut0, ↓kSi_i, ↓kSo_fz, ↓wS_store, pl_1, pl_2, wipe_1, wipe_2, unw_1, unw_2, List.getD_cons_zero, List.getD_cons_succ, List.set_cons_zero, List.set_cons_succ, List.cons_append, List.nil_append, List.replicate_succ, List.replicate_zero, Nat.reduceSub, Nat.reduceAdd, Nat.reduceLT, plain_no, plain_val, plain_ov, Int.natCast_zero, Int.ofNat_zero, Int.cast_ofNat_Int, decide_eq_true_eq, decide_eq_false_iff_not, Bool.not_eq_true', Bool.not_eq_false', Bool.not_true, Bool.not_false, if_true, if_false, true_and, and_true, forall_const, decide_true, decide_false, Int.toNat_natCast, Int.reduceEq, Int.reduceNe, Int.reduceLT, Int.reduceLE, Int.zero_add, implies_true, true_implies, not_true_eq_false, not_false_eq_true, false_implies, false_and, and_false, reduceCtorEq, ite_true, ite_false, eq_self, List.length_cons, List.length_nil]
  have hp : (0 : Int) < 10 ^ Int.toNat 28 := by decide
  have hf := fmod_nn (x := c.natAbs) hp
  have hq : (10 : Int) ^ Int.toNat 28 = ((10 ^ 28 : Nat) : Int) := by decide
  refine ⟨mulOk_of (.inr (by split <;> decide)), h _ ?_⟩
  rw [hq] at hf ⊢
  split <;> omega
theorem cellB_spec {ns : List Int} {l : Dr} {Q : RV × List D → Prop} (h : ∀ (r : Int) (l' : Dr), r.natAbs < 10 ^ 60 → Q (.fz (.int r), [l'.d])) : wO (F_cellB [.val (.list (ns.map .int)), .io l.d]) Q := by
  refine wO_fn rfl ?_
  unfold B_cellB
  simp only [↓wO_some, ↓wO_none, ↓wSl_0, ↓wSl_s, ↓wP_0, ↓wP_s, ↓kW_no, ↓kW_val, ↓kW_own, ↓kW_ov, ↓wO_setSlot, ↓wE_C, ↓kB_val, ↓kB_own, ↓kB_io, ↓wE_B, ↓kV_val, ↓kV_own, ↓wE_V, ↓kM_val, ↓kM_own, ↓wE_M, ↓kF_fz, ↓kF_bw, ↓kF_fr, ↓wE_F, ↓wR_fz, ↓kCt_val, ↓kCt_own, ↓kCt_io, ↓wR_bw, ↓wE_bin, ↓wE_un, ↓wA_nil, ↓kA_fz, ↓kA_bw, ↓kA_fr, ↓wA_cons, ↓wRs_nil, ↓wRs_cons, ↓wE_args, ↓wZ_nil, ↓wZ_cons, ↓kSz_0, ↓kSz_1, ↓kSz_2, ↓kSz_3, ↓kSz_4, ↓kSz_5, ↓kSz_6, ↓kSz_7, ↓kSz_8, ↓wE_tup, ↓wE_lst, ↓kT_bool, ↓wT_tst, ↓wT_and, ↓wT_or, ↓wT_not, ↓wT_yes, ↓wE_bool, ↓wE_if, ↓kAs_val, ↓kAs_own, ↓kAs_io, ↓wAs_nil, ↓wAs_fz, ↓wAs_bw, ↓kOut_nil, ↓kOut_nilr, ↓kPut_own, ↓kPut_io, ↓kOut_one, ↓kOut_oner, ↓wE_call, ↓w_add, ↓w_sub, ↓w_mul, ↓w_mulI, ↓w_fdiv, ↓w_mod, ↓w_neg, ↓w_lt, ↓w_le, ↓w_gt, ↓w_ge, ↓w_eq, ↓w_ne, ↓w_abs, ↓w_min2, ↓w_max2, ↓w_int, ↓w_intb, ↓w_pow, ↓w_lenL, ↓w_lenT, ↓w_ixL, ↓w_ixT, ↓w_tupL, ↓w_tupT, ↓w_listL, ↓w_listT, ↓kS_nx, ↓kS_bk, ↓kS_rt, ↓wS_nx, ↓wS_bk, ↓wS_seq, ↓kSt_fz, ↓kSt_fr, ↓wS_set, ↓kR_fz, ↓kR_fr, ↓wS_ret, ↓wS_retN, ↓wS_drop, ↓wS_if, ↓kAg_val, ↓wS_aug, ↓wG_N, ↓wG_T, ↓wGs_nil, ↓wGs_cons, ↓kIt_L, ↓kIt_T, ↓wI_seq, ↓kG1_i, ↓wI_rg1, ↓kG2_i, ↓wI_rg2, ↓wS_for, ↓wS_while, ↓kAz_fz, ↓wS_asg, ↓kL_nx, ↓kL_bk, ↓kL_rt, ↓wE_comp, ↓wU_nil, ↓wU_io, ↓wU_val, ↓kFn_fz, ↓kFn_fr, ↓kFn_nx, ↓wM_append, ↓wM_pop, ↓wM_rev, ↓wM_ins, ↓wM_popAt, ↓kMt_own, ↓kMt_io, ↓wE_mut, ↓wE_mut0, ↓kSi_i, ↓kSo_fz, ↓wS_store, pl_1, pl_2, wipe_1, wipe_2, unw_1, unw_2, List.getD_cons_zero, List.getD_cons_succ, List.set_cons_zero, List.set_cons_succ, List.cons_append, List.nil_append, List.replicate_succ, List.replicate_zero, Nat.reduceSub, Nat.reduceAdd, Nat.reduceLT, plain_no, plain_val, plain_ov, Int.natCast_zero, Int.ofNat_zero, Int.cast_ofNat_Int, decide_eq_true_eq, decide_eq_false_iff_not, Bool.not_eq_true', Bool.not_eq_false', Bool.not_true, Bool.not_false, if_true, if_false, true_and, and_true, forall_const, decide_true, decide_false, Int.toNat_natCast, Int.reduceEq, Int.reduceNe, Int.reduceLT, Int.reduceLE, Int.zero_add, implies_true, true_implies, not_true_eq_false, not_false_eq_true, false_implies, false_and, and_false, reduceCtorEq, ite_true, ite_false, eq_self, List.length_cons, List.length_nil]
  refine ⟨fun _ => h 0 l (by decide), fun h0 => ?_⟩
  rw [List.length_map] at h0
  have hl : (0 : Int) < ns.length := by omega
  rw [List.length_map]
  refine take_spec hl fun r l' r0 r1 => ?_
  simp only [↓wO_some, ↓wO_none, ↓wSl_0, ↓wSl_s, ↓wP_0, ↓wP_s, ↓kW_no, ↓kW_val, ↓kW_own, ↓kW_ov, ↓wO_setSlot, ↓wE_C, ↓kB_val, ↓kB_own, ↓kB_io, ↓wE_B, ↓kV_val, ↓kV_own, ↓wE_V, ↓kM_val, ↓kM_own, ↓wE_M, ↓kF_fz, ↓kF_bw, ↓kF_fr, ↓wE_F, ↓wR_fz, ↓kCt_val, ↓kCt_own, ↓kCt_io, ↓wR_bw, ↓wE_bin, ↓wE_un, ↓wA_nil, ↓kA_fz, ↓kA_bw, ↓kA_fr, ↓wA_cons, ↓wRs_nil, ↓wRs_cons, ↓wE_args, ↓wZ_nil, ↓wZ_cons, ↓kSz_0, ↓kSz_1, ↓kSz_2, ↓kSz_3, ↓kSz_4, ↓kSz_5, ↓kSz_6, ↓kSz_7, ↓kSz_8, ↓wE_tup, ↓wE_lst, ↓kT_bool, ↓wT_tst, ↓wT_and, ↓wT_or, ↓wT_not, ↓wT_yes, ↓wE_bool, ↓wE_if, ↓kAs_val, ↓kAs_own, ↓kAs_io, ↓wAs_nil, ↓wAs_fz, ↓wAs_bw, ↓kOut_nil, ↓kOut_nilr, ↓kPut_own, ↓kPut_io, ↓kOut_one, ↓kOut_oner, ↓wE_call, ↓w_add, ↓w_sub, ↓w_mul, ↓w_mulI, ↓w_fdiv, ↓w_mod, ↓w_neg, ↓w_lt, ↓w_le, ↓w_gt, ↓w_ge, ↓w_eq, ↓w_ne, ↓w_abs, ↓w_min2, ↓w_max2, ↓w_int, ↓w_intb, ↓w_pow, ↓w_lenL, ↓w_lenT, ↓w_ixL, ↓w_ixT, ↓w_tupL, ↓w_tupT, ↓w_listL, ↓w_listT, ↓kS_nx, ↓kS_bk, ↓kS_rt, ↓wS_nx, ↓wS_bk, ↓wS_seq, ↓kSt_fz, ↓kSt_fr, ↓wS_set, ↓kR_fz, ↓kR_fr, ↓wS_ret, ↓wS_retN, ↓wS_drop, ↓wS_if, ↓kAg_val, ↓wS_aug, ↓wG_N, ↓wG_T, ↓wGs_nil, ↓wGs_cons, ↓kIt_L, ↓kIt_T, ↓wI_seq, ↓kG1_i, ↓wI_rg1, ↓kG2_i, ↓wI_rg2, ↓wS_for, ↓wS_while, ↓kAz_fz, ↓wS_asg, ↓kL_nx, ↓kL_bk, ↓kL_rt, ↓wE_comp, ↓wU_nil, ↓wU_io, ↓wU_val, ↓kFn_fz, ↓kFn_fr, ↓kFn_nx, ↓wM_append, ↓wM_pop, ↓wM_rev, ↓wM_ins, ↓wM_popAt, ↓kMt_own, ↓kMt_io, ↓wE_mut, ↓wE_mut0, ↓kSi_i, ↓kSo_fz, ↓wS_store, pl_1, pl_2, wipe_1, wipe_2, unw_1, unw_2, List.getD_cons_zero, List.getD_cons_succ, List.set_cons_zero, List.set_cons_succ, List.cons_append, List.nil_append, List.replicate_succ, List.replicate_zero, Nat.reduceSub, Nat.reduceAdd, Nat.reduceLT, plain_no, plain_val, plain_ov, Int.natCast_zero, Int.ofNat_zero, Int.cast_ofNat_Int, decide_eq_true_eq, decide_eq_false_iff_not, Bool.not_eq_true', Bool.not_eq_false', Bool.not_true, Bool.not_false, if_true, if_false, true_and, and_true, forall_const, decide_true, decide_false, Int.toNat_natCast, Int.reduceEq, Int.reduceNe, Int.reduceLT, Int.reduceLE, Int.zero_add, implies_true, true_implies, not_true_eq_false, not_false_eq_true, false_implies, false_and, and_false, reduceCtorEq, ite_true, ite_false, eq_self, List.length_cons, List.length_nil]
  obtain ⟨c, ec⟩ : ∃ c, atD (ns.map PyData.int) r = some (.int c) := ⟨_, atD_of r0 r1⟩
  rw [ec]
  simp only [↓wO_some, ↓wO_none, ↓wSl_0, ↓wSl_s, ↓wP_0, ↓wP_s, ↓kW_no, ↓kW_val, ↓kW_own, ↓kW_ov, ↓wO_setSlot, ↓wE_C, ↓kB_val, ↓kB_own, ↓kB_io, ↓wE_B, ↓kV_val, ↓kV_own, ↓wE_V, ↓kM_val, ↓kM_own, ↓wE_M, ↓kF_fz, ↓kF_bw, ↓kF_fr, ↓wE_F, ↓wR_fz, ↓kCt_val, ↓kCt_own, ↓kCt_io, ↓wR_bw, ↓wE_bin, ↓wE_un, ↓wA_nil, ↓kA_fz, ↓kA_bw, ↓kA_fr, ↓wA_cons, ↓wRs_nil, ↓wRs_cons, ↓wE_args, ↓wZ_nil, ↓wZ_cons, ↓kSz_0, ↓kSz_1, ↓kSz_2, ↓kSz_3, ↓kSz_4, ↓kSz_5, ↓kSz_6, ↓kSz_7, ↓kSz_8, ↓wE_tup, ↓wE_lst, ↓kT_bool, ↓wT_tst, ↓wT_and, ↓wT_or, ↓wT_not, ↓wT_yes, ↓wE_bool, ↓wE_if, ↓kAs_val, ↓kAs_own, ↓kAs_io, ↓wAs_nil, ↓wAs_fz, ↓wAs_bw, ↓kOut_nil, ↓kOut_nilr, ↓kPut_own, ↓kPut_io, ↓kOut_one, ↓kOut_oner, ↓wE_call, ↓w_add, ↓w_sub, ↓w_mul, ↓w_mulI, ↓w_fdiv, ↓w_mod, ↓w_neg, ↓w_lt, ↓w_le, ↓w_gt, ↓w_ge, ↓w_eq, ↓w_ne, ↓w_abs, ↓w_min2, ↓w_max2, ↓w_int, ↓w_intb, ↓w_pow, ↓w_lenL, ↓w_lenT, ↓w_ixL, ↓w_ixT, ↓w_tupL, ↓w_tupT, ↓w_listL, ↓w_listT, ↓kS_nx, ↓kS_bk, ↓kS_rt, ↓wS_nx, ↓wS_bk, ↓wS_seq, ↓kSt_fz, ↓kSt_fr, ↓wS_set, ↓kR_fz, ↓kR_fr, ↓wS_ret, ↓wS_retN, ↓wS_drop, ↓wS_if, ↓kAg_val, ↓wS_aug, ↓wG_N, ↓wG_T, ↓wGs_nil, ↓wGs_cons, ↓kIt_L, ↓kIt_T, ↓wI_seq, ↓kG1_i, ↓wI_rg1, ↓kG2_i, ↓wI_rg2, ↓wS_for, ↓wS_while, ↓kAz_fz, ↓wS_asg, ↓kL_nx, ↓kL_bk, ↓kL_rt, ↓wE_comp, ↓wU_nil, ↓wU_io, ↓wU_val, ↓kFn_fz, ↓kFn_fr, ↓kFn_nx, ↓wM_append, ↓wM_pop, ↓wM_rev, ↓wM_ins, ↓wM_popAt, ↓kMt_own, ↓kMt_io, ↓wE_mut, ↓wE_mut0, ↓kSi_i, ↓kSo_fz, ↓wS_store, pl_1, pl_2, wipe_1, wipe_2, unw_1, unw_2, List.getD_cons_zero, List.getD_cons_succ, List.set_cons_zero, List.set_cons_succ, List.cons_append, List.nil_append, List.replicate_succ, List.replicate_zero, Nat.reduceSub, Nat.reduceAdd, Nat.reduceLT, plain_no, plain_val, plain_ov, Int.natCast_zero, Int.ofNat_zero, Int.cast_ofNat_Int, decide_eq_true_eq, decide_eq_false_iff_not, Bool.not_eq_true', Bool.not_eq_false', Bool.not_true, Bool.not_false, if_true, if_false, true_and, and_true, forall_const, decide_true, decide_false, Int.toNat_natCast, Int.reduceEq, Int.reduceNe, Int.reduceLT, Int.reduceLE, Int.zero_add, implies_true, true_implies, not_true_eq_false, not_false_eq_true, false_implies, false_and, and_false, reduceCtorEq, ite_true, ite_false, eq_self, List.length_cons, List.length_nil]
  refine ⟨by decide, by decide, ?_⟩
  rw [sgn_at]
  simp only [↓wO_some, ↓wO_none, ↓wSl_0, ↓wSl_s, ↓wP_0, ↓wP_s, ↓kW_no, ↓kW_val, ↓kW_own, ↓kW_ov, ↓wO_setSlot, ↓wE_C, ↓kB_val, ↓kB_own, ↓kB_io, ↓wE_B, ↓kV_val, ↓kV_own, ↓wE_V, ↓kM_val, ↓kM_own, ↓wE_M, ↓kF_fz, ↓kF_bw, ↓kF_fr, ↓wE_F, ↓wR_fz, ↓kCt_val, ↓kCt_own, ↓kCt_io, ↓wR_bw, ↓wE_bin, ↓wE_un, ↓wA_nil, ↓kA_fz, ↓kA_bw, ↓kA_fr, ↓wA_cons, ↓wRs_nil, ↓wRs_cons, ↓wE_args, ↓wZ_nil, ↓wZ_cons, ↓kSz_0, ↓kSz_1, ↓kSz_2, ↓kSz_3, ↓kSz_4, ↓kSz_5, ↓kSz_6, ↓kSz_7, ↓kSz_8, ↓wE_tup, ↓wE_lst, ↓kT_bool, ↓wT_tst, ↓wT_and, ↓wT_or, ↓wT_not, ↓wT_yes, ↓wE_bool, ↓wE_if, ↓kAs_val, ↓kAs_own, ↓kAs_io, ↓wAs_nil, ↓wAs_fz, ↓wAs_bw, ↓kOut_nil, ↓kOut_nilr, ↓kPut_own, ↓kPut_io, ↓kOut_one, ↓kOut_oner, ↓wE_call, ↓w_add, ↓w_sub, ↓w_mul, ↓w_mulI, ↓w_fdiv, ↓w_mod, ↓w_neg, ↓w_lt, ↓w_le, ↓w_gt, ↓w_ge, ↓w_eq, ↓w_ne, ↓w_abs, ↓w_min2, ↓w_max2, ↓w_int, ↓w_intb, ↓w_pow, ↓w_lenL, ↓w_lenT, ↓w_ixL, ↓w_ixT, ↓w_tupL, ↓w_tupT, ↓w_listL, ↓w_listT, ↓kS_nx, ↓kS_bk, ↓kS_rt, ↓wS_nx, ↓wS_bk, ↓wS_seq, ↓kSt_fz, ↓kSt_fr, ↓wS_set, ↓kR_fz, ↓kR_fr, ↓wS_ret, ↓wS_retN, ↓wS_drop, ↓wS_if, ↓kAg_val, ↓wS_aug, ↓wG_N, ↓wG_T, ↓wGs_nil, ↓wGs_cons, ↓kIt_L, ↓kIt_T, ↓wI_seq, ↓kG1_i, ↓wI_rg1, ↓kG2_i, ↓wI_rg2, ↓wS_for, ↓wS_while, ↓kAz_fz, ↓wS_asg, ↓kL_nx, ↓kL_bk, ↓kL_rt, ↓wE_comp, ↓wU_nil, ↓wU_io, ↓wU_val, ↓kFn_fz, ↓kFn_fr, ↓kFn_nx, ↓wM_append, ↓wM_pop, ↓wM_rev, ↓wM_ins, ↓wM_popAt, ↓kMt_own, ↓kMt_io, ↓wE_mut, ↓wE_mut0, ↓kSi_i, ↓kSo_fz, ↓wS_store, pl_1, pl_2, wipe_1, wipe_2, unw_1, unw_2, List.getD_cons_zero, List.getD_cons_succ, List.set_cons_zero, List.set_cons_succ, List.cons_append, List.nil_append, List.replicate_succ, List.replicate_zero, Nat.reduceSub, Nat.reduceAdd, Nat.reduceLT, plain_no, plain_val, plain_ov, Int.natCast_zero, Int.ofNat_zero, Int.cast_ofNat_Int, decide_eq_true_eq, decide_eq_false_iff_not, Bool.not_eq_true', Bool.not_eq_false', Bool.not_true, Bool.not_false, if_true, if_false, true_and, and_true, forall_const, decide_true, decide_false, Int.toNat_natCast, Int.reduceEq, Int.reduceNe, Int.reduceLT, Int.reduceLE, Int.zero_add, implies_true, true_implies, not_true_eq_false, not_false_eq_true, false_implies, false_and, and_false, reduceCtorEq, ite_true, ite_false, eq_self, List.length_cons, List.length_nil]
  have hp : (0 : Int) < 10 ^ Int.toNat 60 := by decide
  have hf := fmod_nn (x := c.natAbs) hp
  have hq : (10 : Int) ^ Int.toNat 60 = ((10 ^ 60 : Nat) : Int) := by decide
  refine ⟨mulOk_of (.inr (by split <;> decide)), h _ _ ?_⟩
  rw [hq] at hf ⊢
  split <;> omega
end Ev



set_option Elab.async false
set_option linter.all false
/-! lists of numbers on the pure side: in, count, sum, equality -/
namespace Ev
open PySem PySem.Spec L2
mutual
theorem Pl.lay : ∀ {n : Nat} {d : D}, Pl n d → d.canLay0 = true ∧ d.depth ≤ n
  | _, _, .none => ⟨rfl, Nat.zero_le _⟩
  | _, _, .bool _ => ⟨rfl, Nat.zero_le _⟩
  | _, _, .int _ => ⟨rfl, Nat.zero_le _⟩
  | _, _, .str h => ⟨h, Nat.zero_le _⟩
  | n + 1, .tuple ds, .tuple _ h => by
    have := Pl.layAll ds h
    exact ⟨this.1, Nat.succ_le_succ this.2⟩
theorem Pl.layAll : ∀ {n : Nat} (ds : List D), (∀ d, d ∈ ds → Pl n d) → PyData.canLayAll0 ds = true ∧ PyData.depthAll ds ≤ n
  | _, [], _ => ⟨rfl, Nat.zero_le _⟩
  | _, d :: ds, h => by
    obtain ⟨h1, h2⟩ := Pl.lay (h d (List.mem_cons_self ..))
    obtain ⟨h3, h4⟩ := Pl.layAll ds fun e he => h e (List.mem_cons_of_mem _ he)
    exact ⟨by show (_ && _) = true; rw [h1, h3]; rfl, Nat.max_le.mpr ⟨h2, h4⟩⟩
end
theorem shaped_of {d : D} (h1 : d.canLay0 = true) (h2 : d.depth ≤ 64) : SeqAt.shaped d = true := by
  unfold SeqAt.shaped; rw [h1, decide_eq_true h2]; rfl
theorem Pl.shaped {n : Nat} {d : D} (h : Pl n d) (hn : n ≤ 64) : SeqAt.shaped d = true := shaped_of h.lay.1 (Nat.le_trans h.lay.2 hn)
theorem Pl.shapedL {n : Nat} {ds : List D} (h : ∀ d, d ∈ ds → Pl n d) (hn : n ≤ 63) : SeqAt.shaped (.list ds) = true := by
  obtain ⟨h1, h2⟩ := Pl.layAll ds h
  exact shaped_of h1 (Nat.le_trans (Nat.succ_le_succ h2) (Nat.succ_le_succ hn))
theorem Pl.shapedT {n : Nat} {ds : List D} (h : ∀ d, d ∈ ds → Pl n d) (hn : n ≤ 63) : SeqAt.shaped (.tuple ds) = true := by
  obtain ⟨h1, h2⟩ := Pl.layAll ds h
  exact shaped_of h1 (Nat.le_trans (Nat.succ_le_succ h2) (Nat.succ_le_succ hn))
theorem Pl.mono {n m : Nat} {d : D} (h : Pl n d) (hm : n ≤ m) : Pl m d := by
  induction h generalizing m with
  | none => exact .none
  | bool b => exact .bool b
  | int i => exact .int i
  | str h => exact .str h
  | tuple hl _ ih =>
    cases m with
    | zero => omega
    | succ m => exact .tuple hl fun d hd => ih d hd (by omega)
/-- a natural number as data -/
def nI (n : Nat) : D := .int (n : Int)
theorem nI_ap (n : Nat) : nI n = .int (n : Int) := rfl
theorem eqv_ii (a b : Int) : PyData.eqv (.int a) (.int b) = decide (a = b) := rfl
theorem eqv_nn (a b : Nat) : PyData.eqv (nI a) (.int b) = decide (a = b) := by
  show decide ((a : Int) = b) = _
  congr 1; apply propext; omega
theorem plI {n : Nat} (l : List Int) : ∀ d, d ∈ l.map PyData.int → Pl n d := fun d hd => by
  obtain ⟨i, _, rfl⟩ := List.mem_map.mp hd; exact .int i
theorem plN {n : Nat} (l : List Nat) : ∀ d, d ∈ l.map nI → Pl n d := fun d hd => by
  obtain ⟨i, _, rfl⟩ := List.mem_map.mp hd; exact .int _
theorem any_map {α : Type} [DecidableEq α] {e : α → D} {l : List α} {y : α} {d : D} (h : ∀ x, x ∈ l → PyData.eqv (e x) d = decide (x = y)) : ((l.map e).any fun z => PyData.eqv z d) = decide (y ∈ l) := by
  induction l with
  | nil => rfl
  | cons x l ih =>
    rw [List.map_cons, List.any_cons, h x (List.mem_cons_self ..), ih fun z hz => h z (List.mem_cons_of_mem _ hz)]
    by_cases e : x = y
    · simp [e]
    · have : ¬ y = x := fun z => e z.symm
      simp [e, this]
theorem countP_map {α : Type} [DecidableEq α] {e : α → D} {l : List α} {y : α} {d : D} (h : ∀ x, x ∈ l → PyData.eqv (e x) d = decide (x = y)) : (l.map e).countP (fun z => PyData.eqv z d) = l.count y := by
  induction l with
  | nil => rfl
  | cons x l ih =>
    rw [List.map_cons, List.countP_cons, List.count_cons, h x (List.mem_cons_self ..), ih fun z hz => h z (List.mem_cons_of_mem _ hz)]
    by_cases e : x = y <;> simp [e]
section
variable (neg : Bool) (Q : RV → Prop)
theorem w_inT {d : D} {ds : List D} (h1 : SeqAt.shaped d = true) (h2 : SeqAt.shaped (.tuple ds) = true) : wO (inD neg d (.tuple ds)) Q = Q (.fz (.bool (neg != ds.any fun z => PyData.eqv z d))) := by
  show wO (if _ then _ else _) Q = _
  rw [wO_if, h1, h2, rB, wO_some]; simp
theorem w_inL {d : D} {ds : List D} (h1 : SeqAt.shaped d = true) (h2 : SeqAt.shaped (.list ds) = true) : wO (inD neg d (.list ds)) Q = Q (.fz (.bool (neg != ds.any fun z => PyData.eqv z d))) := by
  show wO (if _ then _ else _) Q = _
  rw [wO_if, h1, h2, rB, wO_some]; simp
theorem w_inTI (i : Int) (l : List Int) : wO (inD neg (.int i) (.tuple (l.map .int))) Q = Q (.fz (.bool (neg != decide (i ∈ l)))) := by
  rw [w_inT neg Q (Pl.int (n := 0) i |>.shaped (by decide)) (Pl.shapedT (n := 0) (plI l) (by decide)), any_map fun x _ => eqv_ii x i]
theorem w_inLI (i : Int) (l : List Int) : wO (inD neg (.int i) (.list (l.map .int))) Q = Q (.fz (.bool (neg != decide (i ∈ l)))) := by
  rw [w_inL neg Q (Pl.int (n := 0) i |>.shaped (by decide)) (Pl.shapedL (n := 0) (plI l) (by decide)), any_map fun x _ => eqv_ii x i]
theorem w_inTN (i : Nat) (l : List Nat) : wO (inD neg (.int i) (.tuple (l.map nI))) Q = Q (.fz (.bool (neg != decide (i ∈ l)))) := by
  rw [w_inT neg Q (Pl.int (n := 0) i |>.shaped (by decide)) (Pl.shapedT (n := 0) (plN l) (by decide)), any_map fun x _ => eqv_nn x i]
theorem w_inLN (i : Nat) (l : List Nat) : wO (inD neg (.int i) (.list (l.map nI))) Q = Q (.fz (.bool (neg != decide (i ∈ l)))) := by
  rw [w_inL neg Q (Pl.int (n := 0) i |>.shaped (by decide)) (Pl.shapedL (n := 0) (plN l) (by decide)), any_map fun x _ => eqv_nn x i]
theorem intsOf_map (l : List Int) : intsOf (l.map .int) = some l := by
  induction l with
  | nil => rfl
  | cons x l ih => rw [List.map_cons]; unfold intsOf; rw [ih]; rfl
theorem nI_map (l : List Nat) : l.map nI = (l.map fun n : Nat => (n : Int)).map PyData.int := by rw [List.map_map]; rfl
theorem intsOf_mapN (l : List Nat) : intsOf (l.map nI) = some (l.map fun n : Nat => (n : Int)) := by rw [nI_map, intsOf_map]
theorem sum_cast (l : List Nat) : (l.map fun n : Nat => (n : Int)).sum = ((l.sum : Nat) : Int) := by
  induction l with
  | nil => rfl
  | cons x l ih => rw [List.map_cons, List.sum_cons, List.sum_cons, ih]; push_cast; rfl
theorem w_sumTI (l : List Int) : wO (sum2D [.tuple (l.map .int)]) Q = Q (.fz (.int l.sum)) := by
  show wO (Option.bind _ _) Q = _
  rw [intsOf_map]; exact wO_some ..
theorem w_sumLI (l : List Int) : wO (sum2D [.list (l.map .int)]) Q = Q (.fz (.int l.sum)) := by
  show wO (Option.bind _ _) Q = _
  rw [intsOf_map]; exact wO_some ..
theorem w_sumTN (l : List Nat) : wO (sum2D [.tuple (l.map nI)]) Q = Q (.fz (.int (l.sum : Nat))) := by
  rw [nI_map, w_sumTI, sum_cast]
theorem w_sumLN (l : List Nat) : wO (sum2D [.list (l.map nI)]) Q = Q (.fz (.int (l.sum : Nat))) := by
  rw [nI_map, w_sumLI, sum_cast]
theorem w_cntTI (i : Int) (l : List Int) : wO (countD (.tuple (l.map .int)) [.int i]) Q = Q (.fz (.int (l.count i : Nat))) := by
  show wO (if _ then _ else _) Q = _
  rw [wO_if, Pl.int (n := 0) i |>.shaped (by decide), Pl.shapedT (n := 0) (plI l) (by decide), rI, wO_some, countP_map fun x _ => eqv_ii x i]; simp
theorem w_cntTN (i : Nat) (l : List Nat) : wO (countD (.tuple (l.map nI)) [.int i]) Q = Q (.fz (.int (l.count i : Nat))) := by
  show wO (if _ then _ else _) Q = _
  rw [wO_if, Pl.int (n := 0) i |>.shaped (by decide), Pl.shapedT (n := 0) (plN l) (by decide), rI, wO_some, countP_map fun x _ => eqv_nn x i]; simp
theorem w_cntLI (i : Int) (l : List Int) : wO (countD (.list (l.map .int)) [.int i]) Q = Q (.fz (.int (l.count i : Nat))) := by
  show wO (if _ then _ else _) Q = _
  rw [wO_if, Pl.int (n := 0) i |>.shaped (by decide), Pl.shapedL (n := 0) (plI l) (by decide), rI, wO_some, countP_map fun x _ => eqv_ii x i]; simp
theorem w_cntLN (i : Nat) (l : List Nat) : wO (countD (.list (l.map nI)) [.int i]) Q = Q (.fz (.int (l.count i : Nat))) := by
  show wO (if _ then _ else _) Q = _
  rw [wO_if, Pl.int (n := 0) i |>.shaped (by decide), Pl.shapedL (n := 0) (plN l) (by decide), rI, wO_some, countP_map fun x _ => eqv_nn x i]; simp
end
/-- fMeth by simp -/
theorem wE_meth (ρ : Ρ) (Q : RV → Ρ → Prop) (g fo fs) : wE (fMeth g fo fs) ρ Q = wE fo ρ (kF fun p ρ1 => wR ρ1 p fun d0 => wA fs ρ1 fun rs ρ2 => wR ρ2 p fun d => wRs ρ2 rs fun ds => tyOf d0 = tyOf d ∧ wO (g d ds) fun r => Q r ρ2) := by
  rw [← wE_F]
  show wO (Option.bind _ _) _ = _
  rw [wO_bind]
  show wO _ _ = wO _ _
  congr 1; funext p
  rw [wO_bind, wO_rs]
  congr 1; funext d0
  rw [wO_bind]
  show wO _ _ = wO _ _
  congr 1; funext q
  rw [wO_bind, wO_rs]
  congr 1; funext d
  rw [wO_bind, wO_rsAll]
  congr 1; funext ds
  rw [wO_if, wO_bind]
  simp only [wO_some]
/-- the item of a mapped list at a natural place -/
theorem atD_mapN {α : Type} {e : α → D} {l : List α} {i : Nat} (h : i < l.length) : atD (l.map e) (i : Int) = some (e l[i]) := atD_nat (by rw [List.getElem?_map, List.getElem?_eq_getElem h]; rfl)
theorem rangeD_N (n : Nat) : rangeD 0 n = (List.range n).map nI := by
  unfold rangeD nI
  simp only [Int.zero_add]
def kTR1 (Q : RV → Ρ → Prop) : RV → Ρ → Prop
  | .fz (.int b), ρ => rgOk 0 b = true ∧ Q (.fz (.tuple (rangeD 0 b.toNat))) ρ
  | _, _ => False
theorem kTR1_i (Q b ρ) : kTR1 Q (.fz (.int b)) ρ = (rgOk 0 b = true ∧ Q (.fz (.tuple (rangeD 0 b.toNat))) ρ) := rfl
def kLR1 (Q : RV → Ρ → Prop) : RV → Ρ → Prop
  | .fz (.int b), ρ => rgOk 0 b = true ∧ Q (.fr (.list (rangeD 0 b.toNat))) ρ
  | _, _ => False
theorem kLR1_i (Q b ρ) : kLR1 Q (.fz (.int b)) ρ = (rgOk 0 b = true ∧ Q (.fr (.list (rangeD 0 b.toNat))) ρ) := rfl
theorem wE_tupRg1 (ρ : Ρ) (Q : RV → Ρ → Prop) (f) : wE (fTupleRg1 f) ρ Q = wE f ρ (kF (kTR1 Q)) := by
  rw [← wE_F]
  show wO (Option.bind _ _) _ = _
  rw [wO_bind]
  show wO _ _ = wO _ _
  congr 1; funext p
  obtain ⟨r, ρ1⟩ := p
  cases r with
  | fz d =>
    cases d with
    | int b =>
      show wO (if _ then _ else _) _ = _
      rw [wO_if, wO_some, Int.sub_zero]; rfl
    | _ => exact wO_none _
  | _ => exact wO_none _
theorem wE_listRg1 (ρ : Ρ) (Q : RV → Ρ → Prop) (f) : wE (fListRg1 f) ρ Q = wE f ρ (kF (kLR1 Q)) := by
  rw [← wE_F]
  show wO (Option.bind _ _) _ = _
  rw [wO_bind]
  show wO _ _ = wO _ _
  congr 1; funext p
  obtain ⟨r, ρ1⟩ := p
  cases r with
  | fz d =>
    cases d with
    | int b =>
      show wO (if _ then _ else _) _ = _
      rw [wO_if, wO_some, Int.sub_zero]; rfl
    | _ => exact wO_none _
  | _ => exact wO_none _
def kTR2b (i : Int) (Q : RV → Ρ → Prop) : RV → Ρ → Prop
  | .fz (.int b), ρ => rgOk i b = true ∧ Q (.fz (.tuple (rangeD i (b - i).toNat))) ρ
  | _, _ => False
theorem kTR2b_i (i Q b ρ) : kTR2b i Q (.fz (.int b)) ρ = (rgOk i b = true ∧ Q (.fz (.tuple (rangeD i (b - i).toNat))) ρ) := rfl
def kTR2 (fb : EF) (Q : RV → Ρ → Prop) : RV → Ρ → Prop
  | .fz (.int i), ρ => wE fb ρ (kF (kTR2b i Q))
  | _, _ => False
theorem kTR2_i (fb i Q ρ) : kTR2 fb Q (.fz (.int i)) ρ = wE fb ρ (kF (kTR2b i Q)) := rfl
def kLR2b (i : Int) (Q : RV → Ρ → Prop) : RV → Ρ → Prop
  | .fz (.int b), ρ => rgOk i b = true ∧ Q (.fr (.list (rangeD i (b - i).toNat))) ρ
  | _, _ => False
theorem kLR2b_i (i Q b ρ) : kLR2b i Q (.fz (.int b)) ρ = (rgOk i b = true ∧ Q (.fr (.list (rangeD i (b - i).toNat))) ρ) := rfl
def kLR2 (fb : EF) (Q : RV → Ρ → Prop) : RV → Ρ → Prop
  | .fz (.int i), ρ => wE fb ρ (kF (kLR2b i Q))
  | _, _ => False
theorem kLR2_i (fb i Q ρ) : kLR2 fb Q (.fz (.int i)) ρ = wE fb ρ (kF (kLR2b i Q)) := rfl
theorem wE_tupRg2 (ρ : Ρ) (Q : RV → Ρ → Prop) (f fb) (h : wE f ρ (kF (kTR2 fb Q))) : wE (fTupleRg2 f fb) ρ Q := by
  rw [← wE_F] at h
  show wO (Option.bind _ _) _
  rw [wO_bind]
  refine wO.mono h fun p h => ?_
  obtain ⟨r, ρ1⟩ := p
  cases r with
  | fz d =>
    cases d with
    | int b =>
      rw [kTR2_i, ← wE_F] at h
      rw [wO_bind]
      refine wO.mono h fun q h => ?_
      obtain ⟨r, ρ2⟩ := q
      cases r with
      | fz d =>
        cases d with
        | int b =>
          show wO (if _ then _ else _) _
          rw [wO_if, wO_some]; exact h
        | _ => exact h.elim
      | _ => exact h.elim
    | _ => exact h.elim
  | _ => exact h.elim
theorem wE_listRg2 (ρ : Ρ) (Q : RV → Ρ → Prop) (f fb) (h : wE f ρ (kF (kLR2 fb Q))) : wE (fListRg2 f fb) ρ Q := by
  rw [← wE_F] at h
  show wO (Option.bind _ _) _
  rw [wO_bind]
  refine wO.mono h fun p h => ?_
  obtain ⟨r, ρ1⟩ := p
  cases r with
  | fz d =>
    cases d with
    | int b =>
      rw [kLR2_i, ← wE_F] at h
      rw [wO_bind]
      refine wO.mono h fun q h => ?_
      obtain ⟨r, ρ2⟩ := q
      cases r with
      | fz d =>
        cases d with
        | int b =>
          show wO (if _ then _ else _) _
          rw [wO_if, wO_some]; exact h
        | _ => exact h.elim
      | _ => exact h.elim
    | _ => exact h.elim
  | _ => exact h.elim
theorem rgOk_nat {n : Nat} (h : n ≤ 16777216) : rgOk 0 (n : Int) = true := by
  unfold rgOk
  rw [rOk_nat h, Bool.and_eq_true, decide_eq_true_eq, Bool.and_true]
  exact ⟨by decide, by omega⟩
theorem rep_ok {m n : Nat} (h : m * n ≤ 16777216) (hn : n ≤ 16777216) : (i63 (n : Int) && decide (m * ((n : Int)).toNat ≤ sizeLine)) = true := by
  unfold i63
  rw [Bool.and_eq_true, Bool.and_eq_true, decide_eq_true_eq, decide_eq_true_eq, decide_eq_true_eq, Int.toNat_natCast]
  exact ⟨⟨by omega, by omega⟩, szB_of h⟩
theorem flat_rep {α : Type} (n : Nat) (x : α) : (List.replicate n [x]).flatten = List.replicate n x := by
  induction n with
  | zero => rfl
  | succ n ih => rw [List.replicate_succ, List.flatten_cons, ih]; rfl
end Ev


set_option Elab.async false
set_option linter.all false
set_option maxRecDepth 100000
/-! Ev14: pairs stored at once, chained comparisons, gcd, item op= -/
namespace Ev
open PySem PySem.Spec L2
open PyProof.Rows hiding St
section
variable {K : PySem.W.Frag} {H Z H' Z' : Hp} {σ : St} {ρ ρ' : Ρ}
def sPar (i j : Nat) (fs : AF) : SF := fun ρ => (fs ρ).bind fun p => match p.1 with
  | [.fz d, .fz e] => (setSlot p.2 i (.val d)).bind fun ρ1 => (setSlot ρ1 j (.val e)).bind fun ρ2 => some (.nx, ρ2)
  | _ => none
theorem tS_par {i j : Nat} {fs : AF} {D : Ends} (h : tS K (sPar i j fs) D σ H) : tPar i j (tA K fs) D σ H := by
  obtain ⟨Z, ρ, c, ρ', E, e, q⟩ := h
  obtain ⟨⟨rs1, ρ1⟩, e1, e⟩ := bs e
  dsimp only at e
  split at e
  · rename_i d1 d2
    obtain ⟨ρ2, e2, e⟩ := bs e
    obtain ⟨ρ3, e3, e⟩ := bs e
    cases e
    refine ⟨Z, ρ, _, ρ1, E, e1, fun vs H1 Z1 s1 E1 o1 ra => ?_⟩
    cases ra with
    | cons r1 rr =>
      cases rr with
      | cons r2 rr =>
        cases rr
        cases r1 with
        | fz hd1 =>
          cases r2 with
          | fz hd2 =>
            rename_i v1 v2
            refine ⟨v1, v2, rfl, ?_⟩
            have P1 : PostS K σ ρ H Z σ ρ1 H1 Z1 := .ofT s1 E1 o1
            have A1 : Post K σ ρ1 ρ1 H1 Z1 H1 Z1 v1 (.fz d1) := ⟨.refl, E1, .refl, .fz hd1, fun _ _ z => nomatch z⟩
            have P2 := PostS.assign A1 rfl e2
            have A2 : Post K (σ.set i (some v1)) ρ2 ρ2 H1 Z1 H1 Z1 v2 (.fz d2) := ⟨.refl, P2.env, .refl, .fz hd2, fun _ _ z => nomatch z⟩
            have P3 := PostS.assign A2 rfl e3
            exact q _ H1 Z1 (P1.trans (P2.trans P3))
  · cases e
def fChain (g h : D → D → Option RV) (fa fb fc : EF) : EF := fun ρ => (fFz fa ρ).bind fun p => (fFz fb p.2).bind fun q => match q.1 with
  | .fz y => (rs q.2 p.1).bind fun x => (g x y).bind fun r => match r with
    | .fz (.bool true) => (fFz fc q.2).bind fun t => (rs t.2 t.1).bind fun z => (h y z).bind fun r2 => some (r2, t.2)
    | .fz (.bool false) => some (.fz (.bool false), q.2)
    | _ => none
  | _ => none
theorem tE_chain {g h : D → D → Option RV} {fa fb fc : EF} {Q : VK} (h0 : tE K (fChain g h fa fb fc) σ H Q) : tChain (rOp2 K g) (rOp2 K h) (tE K fa) (tE K fb) (tE K fc) σ H Q := by
  obtain ⟨Z, ρ, r, ρ', E, e, q⟩ := h0
  obtain ⟨⟨x, ρ1⟩, e1, e⟩ := bs e
  obtain ⟨⟨y, ρ2⟩, e2, e⟩ := bs e
  refine tE_fz ⟨Z, ρ, x, ρ1, E, e1, fun v H1 Z1 P1 => tE_fz ⟨Z1, ρ1, y, ρ2, P1.env, e2, fun u H2 Z2 P2 => ?_⟩⟩
  cases y with
  | fr d => cases e
  | bw i => cases e
  | fz y =>
    obtain ⟨d, e3, e⟩ := bs e
    obtain ⟨r', e5, e⟩ := bs e
    have h1 := (P1.rv.toRa (rs_isArg e3)).mono P2.stp.zz
    have h2 := P2.rv.toRa (r := .fz y) rfl
    have hy : rs ρ2 (.fz y) = some y := rfl
    refine ⟨Z2, d, y, r', P2.env.zh, P2.env.zl, h1.sh P2.env e3, h2.sh P2.env hy, e5, fun w H3 Z3 A => ?_⟩
    have P3 := A.post P2.env
    have S3 : Post K σ ρ ρ2 H Z H3 Z3 w r' := Post.trans (P1.stp.trans (fun b h => .inl (P1.ow.ow b h)) P2.stp) (P1.ow.trans P2.ow) P3
    cases r' with
    | fr d => cases e
    | bw i => cases e
    | fz rd =>
      cases rd with
      | bool b =>
        have hrv := A.rv
        cases b with
        | true =>
          obtain ⟨⟨t, ρ3⟩, e6, e⟩ := bs e
          obtain ⟨z, e7, e⟩ := bs e
          obtain ⟨r2, e8, e⟩ := bs e
          cases e
          cases hrv with
          | bl b =>
            refine ⟨true, rfl, ?_⟩
            rw [if_pos rfl]
            refine tE_fz ⟨Z3, ρ2, t, ρ3, S3.env, e6, fun w' H4 Z4 P4 => ?_⟩
            have hd2 := (h2.mono P3.stp.zz).mono P4.stp.zz
            have hd3 := P4.rv.toRa (rs_isArg e7)
            have hy4 : rs ρ3 (.fz y) = some y := rfl
            refine ⟨Z4, y, z, _, P4.env.zh, P4.env.zl, hd2.sh P4.env hy4, hd3.sh P4.env e7, e8, fun w2 H5 Z5 A5 => q w2 H5 Z5 ?_⟩
            exact Post.trans S3.stp S3.ow (Post.trans P4.stp P4.ow (A5.post P4.env))
        | false =>
          cases e
          cases hrv with
          | bl b =>
            refine ⟨false, rfl, ?_⟩
            rw [if_neg (by decide)]
            exact q _ H3 Z3 S3
      | _ => cases e
theorem tT_tst2 {f : EF} {te : TE} {Q : Bool → Hp → Prop} (h : tT K (fTst f) σ H Q) (i : ∀ σ H Q, tE K f σ H Q → te σ H Q) : tTest te σ H Q := by
  obtain ⟨Z, ρ, b, ρ', E, e, q⟩ := h
  obtain ⟨⟨r, ρ1⟩, e1, e⟩ := bs e
  refine i _ _ _ ⟨Z, ρ, r, ρ1, E, e1, fun v H1 Z1 P => ?_⟩
  dsimp only at e
  split at e
  · rename_i b'
    cases e
    have hrv := P.rv
    cases hrv with
    | fz hd => cases hd; exact ⟨_, rfl, q H1 Z1 P.stp P.env P.ow⟩
  · cases e
end
section
variable {X : Cx} {a b c e : Expr} {fa fb fc : EF} {pos : Pos}
theorem ev_chain {op op' : CmpOp} {g h : D → D → Option RV} (ho : OpR X (compareOp op) (rOp2 X.K g)) (ho' : OpR X (compareOp op') (rOp2 X.K h)) (ha : EvE X a fa) (hb : EvE X b fb) (hc : EvE X c fc)
    (hm : lastMarks [op, op'] [b, c] = false := by with_unfolding_all rfl) : EvE X (.Compare a [op, op'] [b, c] pos) (fChain g h fa fb fc) := ⟨peImp (pe_chain ho ho' ha.pe hb.pe hc.pe hm) fun σ H Q h => tE_chain h⟩
theorem et_chain {op op' : CmpOp} {g h : D → D → Option RV} (ho : OpR X (compareOp op) (rOp2 X.K g)) (ho' : OpR X (compareOp op') (rOp2 X.K h)) (ha : EvE X a fa) (hb : EvE X b fb) (hc : EvE X c fc)
    (hm : lastMarks [op, op'] [b, c] = false := by with_unfolding_all rfl) : EvT X (.Compare a [op, op'] [b, c] pos) (fTst (fChain g h fa fb fc)) := ⟨ptImp (pt_chain ho ho' ha.pe hb.pe hc.pe hm) fun σ H Q h => tT_tst2 h fun _ _ _ h => tE_chain h⟩
theorem es_par {i j : Nat} {x y : Str} {fs : AF} {px py pt : Pos} {kt k2 pt2} (hc : X.calm = true) (hN : X.N.Nodup) (hi : X.N[i]? = some x) (hj : X.N[j]? = some y) (hij : i ≠ j)
    (hx : X.env.scope.names.lookup x = some .local) (hy : X.env.scope.names.lookup y = some .local) (ha : EvA X [a, b] fs)
    (hw : swappedStores [.Tuple [.Name x px, .Name y py] kt pt] (.Tuple [a, b] k2 pt2) X.env = pure (some [x, y]) := by rfl)
    (hs : swapsWithSole [.Tuple [.Name x px, .Name y py] kt pt] (.Tuple [a, b] k2 pt2) pos.line X.env = pure false := by rfl) :
    EvS X (.Assign [.Tuple [.Name x px, .Name y py] kt pt] (.Tuple [a, b] k2 pt2) pos) (sPar i j fs) := ⟨psImp (ps_par hc hN hi hj hij hx hy ha.pa hw hs) fun D σ H h => tS_par h⟩
def gcdD : List D → Option RV
  | [.int a, .int b] => rI ((Nat.gcd a.natAbs b.natAbs : Nat) : Int)
  | _ => none
theorem c_gcd : CallR X (.builtin "math.gcd") (rOpN X.K gcdD) := callImp cr_gcd fun xs H Q ⟨Z, ds, r, zh, zl, hs, er, q⟩ => by
  unfold gcdD at er
  split at er
  · cases er
    cases hs with
    | cons h1 hs =>
      cases hs with
      | cons h2 hs =>
        cases hs
        exact ⟨_, _, by rw [h1.int, h2.int], q _ H Z (.same zh zl (.int _))⟩
  · cases er
theorem ev_gcd {es : List Expr} {fs : AF} {x : Str} {p : Pos} (hg : Gl X x) (hm : X.mg x = some (.builtin "math.gcd")) (ha : EvA X (a :: es) fs)
    (hdb : (x == ("__debug__" : Str)) = false := by decide) (he : starEach (a :: es) X.env = (false, eval a X.env) :: starEach es X.env := by rfl) (hpl : (backTo pos (starEach es X.env)).any (·.1) = false := by rfl) :
    EvE X (.Call (.Name x p) (a :: es) [] pos) (fArgs gcdD fs) := ⟨peImp (pe_callBfun c_gcd hg hm ha.pa hdb he hpl) fun σ H Q h => tE_args h⟩
end
/-! ### sorted(set(t)) of ints -/
def insI (x : Int) : List Int → List Int
  | [] => [x]
  | y :: r => if x < y then x :: y :: r else if x = y then y :: r else y :: insI x r
def srtI (l : List Int) : List Int := l.foldr insI []
theorem insI_mem {x z : Int} : ∀ {l : List Int}, z ∈ insI x l ↔ z = x ∨ z ∈ l
  | [] => by simp [insI]
  | y :: r => by
    unfold insI
    split
    · simp
    · split
      · rename_i h1 h2; subst h2; simp
      · rw [List.mem_cons, insI_mem, List.mem_cons]
        constructor
        · rintro (h | h | h) <;> simp [h]
        · rintro (h | h | h) <;> simp [h]
theorem insI_pw {x : Int} : ∀ {l : List Int}, l.Pairwise (· < ·) → (insI x l).Pairwise (· < ·)
  | [], _ => by simp [insI]
  | y :: r, h => by
    obtain ⟨h1, h2⟩ := List.pairwise_cons.mp h
    unfold insI
    split
    · rename_i hx
      refine List.pairwise_cons.mpr ⟨fun z hz => ?_, h⟩
      rcases List.mem_cons.mp hz with rfl | hz
      · exact hx
      · have := h1 z hz; omega
    · split
      · exact h
      · rename_i hx hy
        refine List.pairwise_cons.mpr ⟨fun z hz => ?_, insI_pw h2⟩
        rcases insI_mem.mp hz with rfl | hz
        · omega
        · exact h1 z hz
theorem srtI_mem {z : Int} : ∀ {l : List Int}, z ∈ srtI l ↔ z ∈ l
  | [] => by simp [srtI]
  | y :: r => by
    show z ∈ insI y (srtI r) ↔ _
    rw [insI_mem, srtI_mem, List.mem_cons]
theorem srtI_pw : ∀ (l : List Int), (srtI l).Pairwise (· < ·)
  | [] => List.Pairwise.nil
  | y :: r => insI_pw (srtI_pw r)
theorem pw_uniq : ∀ {l m : List Int}, l.Pairwise (· < ·) → m.Pairwise (· < ·) → (∀ z, z ∈ l ↔ z ∈ m) → l = m
  | [], [], _, _, _ => rfl
  | [], y :: m, _, _, h => absurd ((h y).mpr (List.mem_cons_self ..)) (by simp)
  | x :: l, [], _, _, h => absurd ((h x).mp (List.mem_cons_self ..)) (by simp)
  | x :: l, y :: m, p, q, h => by
    obtain ⟨p1, p2⟩ := List.pairwise_cons.mp p
    obtain ⟨q1, q2⟩ := List.pairwise_cons.mp q
    have e : x = y := by
      rcases List.mem_cons.mp ((h x).mp (List.mem_cons_self ..)) with e | hx
      · exact e
      · rcases List.mem_cons.mp ((h y).mpr (List.mem_cons_self ..)) with e | hy
        · exact e.symm
        · have := p1 y hy; have := q1 x hx; omega
    subst e
    refine congrArg _ (pw_uniq p2 q2 fun z => ⟨fun hz => ?_, fun hz => ?_⟩)
    · rcases List.mem_cons.mp ((h z).mp (List.mem_cons_of_mem _ hz)) with e | hz2
      · subst e; exact absurd (p1 z hz) (by omega)
      · exact hz2
    · rcases List.mem_cons.mp ((h z).mpr (List.mem_cons_of_mem _ hz)) with e | hz2
      · subst e; exact absurd (q1 z hz) (by omega)
      · exact hz2
def sortSetD : D → Option RV
  | .tuple ds => (intsOf ds).bind fun is => if is.length < 64 then some (.fr (.list ((srtI is).map .int))) else none
  | _ => none
def fSortSet (f : EF) : EF := fun ρ => (fFz f ρ).bind fun p => match p.1 with
  | .fz d => (sortSetD d).bind fun r => some (r, p.2)
  | _ => none
theorem insI_len (x : Int) : ∀ l : List Int, (insI x l).length ≤ l.length + 1
  | [] => by simp [insI]
  | y :: r => by
    unfold insI
    have := insI_len x r
    split
    · simp
    · split <;> simp <;> omega
theorem srtI_len : ∀ l : List Int, (srtI l).length ≤ l.length
  | [] => Nat.le_refl _
  | y :: r => by
    have h1 := insI_len y (srtI r)
    have h2 := srtI_len r
    show (insI y (srtI r)).length ≤ _
    rw [List.length_cons]; omega
theorem ints_dpAll {K : PySem.W.Frag} {Z : Hp} (l : List Int) : DpAll K Z (l.map V.int) (l.map PyData.int) := by
  induction l with
  | nil => exact .nil
  | cons x l ih => exact .cons (.int x) ih
section
variable {X : Cx} {e : Expr} {f : EF} {p p2 pos pos2 : Pos}
theorem ev_sortSet (hg : Gl X "sorted") (hm : X.mg "sorted" = none) (hg2 : Gl X "set") (hm2 : X.mg "set" = none) (h : EvE X e f) (hc : X.calm = true := by rfl)
    (na : starEach [e] X.env = (false, eval e X.env) :: starEach [] X.env := by rfl) : EvE X (.Call (.Name "sorted" p) [.Call (.Name "set" p2) [e] [] pos2] [] pos) (fSortSet f) := by
  refine ⟨⟨fun pins s σ H Q I q0 => ?_⟩⟩
  obtain ⟨Z, ρ, r, ρ', E, er, q⟩ := q0
  obtain ⟨⟨r1, ρ1⟩, e1, er⟩ := bs er
  dsimp only at er
  split at er
  · rename_i d
    obtain ⟨r2, e2, er⟩ := bs er
    cases er
    refine Call_ (ld_blt I hg hm boot_sorted ?_)
    refine PyProof.Rows.callWith_builtin1 (PyProof.Rows.args_cons ?_ rfl) rfl rfl
    refine Call_ (ld_blt I hg2 hm2 boot_set ?_)
    have hE := h.pe.run pins s σ H (fun v H1 => ∃ Z1, Post X.K σ ρ ρ' H Z H1 Z1 v (.fz d)) I (tE_fz ⟨Z, ρ, _, ρ', E, e1, fun v H1 Z1 P => ⟨Z1, P⟩⟩)
    refine PyProof.Rows.callWith_type1 (PyProof.Rows.args_cons (thn hE fun v s1 ⟨x, H1, I1, rx, Z1, P⟩ => PyProof.Rows.args_nil ?_) na) na rfl
    unfold sortSetD at e2
    split at e2
    · rename_i ds
      obtain ⟨is, e3, e2⟩ := bs e2
      split at e2
      · rename_i hl
        cases e2
        have hrv := P.rv
        cases hrv with
        | fz hd =>
          cases hd with
          | tup ht ha =>
            have hq : SqT X.K H1 _ _ := P.env.zh.sqt (.inl (.inr ht))
            rw [ints_dp ha e3] at hq
            obtain ⟨its, rv, pt, hz⟩ := I1.tuple hq
            cases rx
            have hi : IntsAre its.toArray.toList is := ints_of_vals rv
            have hd := I1.ok.hd hc
            refine call_set_tupI is hd (show s1.heap.IsTuple _ its.toArray from pt) hi (by unfold scanBound; omega) fun h' tk c R1 hcn k => ?_
            have I2 : Inv X pins σ H1 { s1 with heap := h', toks := tk } := I1.kept fun b o e => k b o e
            refine PyProof.Rows.args_nil ?_
            refine sorted_set R1 hd (by omega) fun s' p out c2 ns k2 g o hp hgt hi2 hs hm hln => ?_
            have en : ns = srtI is := pw_uniq hs (srtI_pw is) fun z => by rw [hm z, decide_eq_true_eq, srtI_mem]
            have hlen : (ns.map V.int).length ≤ sizeLine := by rw [List.length_map, hln, sizeLine_eq]; omega
            have hn : H1 p = none := I2.hok.fresh hp
            have J : Inv X pins σ (upd H1 p (.lst (ns.map V.int))) { ({ s1 with heap := h', toks := tk } : Shared) with heap := s'.heap, gens := s'.gens, drawn := s'.drawn, toks := s'.toks } :=
              I2.call (ch := []) (Un.laid k2 hp hn) (I2.hok.laid k2 hp ⟨hlen, out.toList, c2, vals_of_ints hi2, hgt⟩) (by rw [g]; exact I2.bare) (fun _ z => nomatch z)
            have es : s' = { s1 with heap := s'.heap, gens := s'.gens, drawn := s'.drawn, toks := s'.toks } := by
              cases s'
              cases s1
              cases o
              rfl
            rw [es]
            refine ⟨.ref p, _, J, rfl, q _ _ Z1 ?_⟩
            rw [← en]
            exact Post.trans P.stp P.ow ((Alc.newLst P.env.zh P.env.zl hn hlen (ints_dpAll ns)).post P.env)
      · cases e2
    · cases e2
  · cases er
end
section
variable {X : Cx} {tg e : Expr} {f : EF} {g : GF} {sl : List Nat} {pos : Pos}
theorem es_asgE (he : EvE X e f) (hg : EvG X tg sl g) (hs : swapsWithSole [tg] e pos.line X.env = pure false := by rfl) (hw : swappedStores [tg] e X.env = pure none := by rfl)
    (h1 : (assignEach [tg] X.env).map (·.2) = [assign tg X.env] := by rfl) : EvS X (.Assign [tg] e pos) (sAsg g f) := es_asg (tg := tg) (ps_asg he.pe hg.pg hs hw h1)
end
/-! ### is, of bools; a list turned about -/
def isB : D → D → Option RV
  | .bool a, .bool b => rB (decide (a = b))
  | _, _ => none
def notB : D → D → Option RV
  | .bool a, .bool b => rB (!decide (a = b))
  | _, _ => none
theorem Sh.bl {K : PySem.W.Frag} {H Z : Hp} {v : V} {b : Bool} (h : Sh K H Z v (.bool b)) : v = .bl b := by
  rcases h with h | ⟨a, _, h⟩
  · cases h; rfl
  · cases h
def revD : D → Option RV
  | .list ds => if ds.length ≤ sizeLine then some (.fr (.list ds.reverse)) else none
  | _ => none
theorem DpAll.rev {K : PySem.W.Frag} {Z : Hp} : ∀ {vs : List V} {ds : List D}, DpAll K Z vs ds → DpAll K Z vs.reverse ds.reverse
  | [], [], _ => .nil
  | v :: vs, d :: ds, h => by
    cases h with
    | cons h1 h2 => rw [List.reverse_cons, List.reverse_cons]; exact (DpAll.rev h2).append (.cons h1 .nil)
section
variable {X : Cx} {e : Expr} {f : EF}
theorem o_isB : OpR X (compareOp .Is) (rOp2 X.K isB) := opImp op_isBl fun x y H Q ⟨Z, d, e, r, zh, zl, hx, hy, er, q⟩ => by
  unfold isB at er
  split at er
  · cases er; exact ⟨_, _, hx.bl, hy.bl, q _ H Z (.same zh zl (.bl _))⟩
  · cases er
theorem o_notB : OpR X (compareOp .IsNot) (rOp2 X.K notB) := opImp op_notBl fun x y H Q ⟨Z, d, e, r, zh, zl, hx, hy, er, q⟩ => by
  unfold notB at er
  split at er
  · cases er; exact ⟨_, _, hx.bl, hy.bl, q _ H Z (.same zh zl (.bl _))⟩
  · cases er
theorem ev_rev {k : Nat} {p1 p2 p3 pos : Pos} (he : EvE X e f) : EvE X (.Subscript e (.Slice none none (some (.UnaryOp .USub (.Constant (.int 1) k p1) p2)) p3) pos) (fUn revD f) :=
  ⟨peImp (pe_revL he.pe) fun σ H Q h => by
    obtain ⟨Z, ρ, r, ρ', E, e, q⟩ := h
    obtain ⟨⟨x, ρ1⟩, e1, e⟩ := bs e
    obtain ⟨d, e3, e⟩ := bs e
    obtain ⟨r', e5, e⟩ := bs e
    cases e
    refine tE_fz ⟨Z, ρ, x, ρ1, E, e1, fun v H1 Z1 P1 => ?_⟩
    have hs := (P1.rv.toRa (rs_isArg e3)).sh P1.env e3
    unfold revD at e5
    split at e5
    · split at e5
      · rename_i hl
        cases e5
        obtain ⟨a, us, rfl, ha, hda⟩ := hs.list P1.env.zh
        refine ⟨a, us, rfl, ha, fun p hp => q _ _ Z1 ?_⟩
        exact Post.trans P1.stp P1.ow ((Alc.newLst P1.env.zh P1.env.zl hp (by rw [List.length_reverse, hda.length]; exact hl) (DpAll.rev hda)).post P1.env)
      · cases e5
    · cases e5⟩
end
end Ev


set_option Elab.async false
set_option linter.all false
/-! Ev15: the pure side of Ev14, slices, while -/
namespace Ev
open PySem PySem.Spec L2
theorem wO_setSlot' (ρ : Ρ) (i : Nat) (t : Slot) (k : Ρ → Prop) : wO (setSlot ρ i t) k = wSl ρ i (kW i ρ t k) := wO_setSlot ..
def kPar (i j : Nat) (Q : Ctl → Ρ → Prop) : List RV → Ρ → Prop
  | [.fz d, .fz e], ρ => wSl ρ i (kW i ρ (.val d) fun ρ2 => wSl ρ2 j (kW j ρ2 (.val e) (Q .nx)))
  | _, _ => False
theorem kPar_2 (i j Q d e ρ) : kPar i j Q [.fz d, .fz e] ρ = wSl ρ i (kW i ρ (.val d) fun ρ2 => wSl ρ2 j (kW j ρ2 (.val e) (Q .nx))) := rfl
theorem wS_par (ρ : Ρ) (Q : Ctl → Ρ → Prop) (i j fs) : wS (sPar i j fs) ρ Q = wA fs ρ (kPar i j Q) := by
  show wO (Option.bind _ _) _ = _
  rw [wO_bind]
  show wO _ _ = wO _ _
  congr 1; funext p
  obtain ⟨rs, ρ1⟩ := p
  dsimp only
  split
  · rw [wO_bind, wO_setSlot, kPar_2]
    refine congrArg _ (congrArg _ ?_)
    funext ρ2
    rw [wO_bind, wO_setSlot]
    simp only [wO_some]
  · rename_i h
    rw [wO_none]
    unfold kPar
    split
    · exact (h _ _ rfl).elim
    · rfl
def kCh2 (h : D → D → Option RV) (fc : EF) (y : D) (ρ : Ρ) (Q : RV → Ρ → Prop) : RV → Prop
  | .fz (.bool b) => (b = true → wE fc ρ (kF fun t ρ3 => wR ρ3 t fun z => wO (h y z) fun r => Q r ρ3)) ∧ (b = false → Q (.fz (.bool false)) ρ)
  | _ => False
theorem kCh2_b (h fc y ρ Q b) : kCh2 h fc y ρ Q (.fz (.bool b)) = ((b = true → wE fc ρ (kF fun t ρ3 => wR ρ3 t fun z => wO (h y z) fun r => Q r ρ3)) ∧ (b = false → Q (.fz (.bool false)) ρ)) := rfl
def kCh (g h : D → D → Option RV) (fc : EF) (p : RV) (Q : RV → Ρ → Prop) : RV → Ρ → Prop
  | .fz y, ρ => wR ρ p fun x => wO (g x y) (kCh2 h fc y ρ Q)
  | _, _ => False
theorem kCh_fz (g h fc p Q y ρ) : kCh g h fc p Q (.fz y) ρ = wR ρ p fun x => wO (g x y) (kCh2 h fc y ρ Q) := rfl
theorem wE_chain (ρ : Ρ) (Q : RV → Ρ → Prop) (g h fa fb fc) : wE (fChain g h fa fb fc) ρ Q = wE fa ρ (kF fun p ρ1 => wE fb ρ1 (kF (kCh g h fc p Q))) := by
  rw [← wE_F]
  show wO (Option.bind _ _) _ = _
  rw [wO_bind]
  show wO _ _ = wO _ _
  congr 1; funext p
  rw [wO_bind]
  show _ = wE fb p.2 (kF _)
  rw [← wE_F]
  show wO _ _ = wO _ _
  congr 1; funext q
  obtain ⟨r, ρ2⟩ := q
  cases r with
  | fz y =>
    rw [kCh_fz]
    show wO (Option.bind _ _) _ = _
    rw [wO_bind, wO_rs]
    congr 1; funext x
    rw [wO_bind]
    congr 1; funext r
    cases r with
    | fz d =>
      cases d with
      | bool b =>
        cases b with
        | true =>
          rw [kCh2_b]
          show wO (Option.bind _ _) _ = _
          rw [wO_bind]
          have : (∀ X Y : Prop, ((true = true → X) ∧ (true = false → Y)) = X) := fun X Y => by simp
          rw [this, ← wE_F]
          show wO _ _ = wO _ _
          congr 1; funext t
          rw [wO_bind, wO_rs]
          congr 1; funext z
          rw [wO_bind]
          simp only [wO_some]
        | false =>
          rw [kCh2_b]
          have : (∀ X Y : Prop, ((false = true → X) ∧ (false = false → Y)) = Y) := fun X Y => by simp
          rw [this]
          exact wO_some ..
      | _ => exact wO_none _
    | _ => exact wO_none _
  | _ => exact wO_none _
theorem w_iadd (i j : Int) (Q : RV → Prop) : wO (iaddD (.int i) (.int j)) Q = Q (.fz (.int (i + j))) := wO_some ..
theorem w_gcd (a b : Int) (Q : RV → Prop) : wO (gcdD [.int a, .int b]) Q = Q (.fz (.int ((Nat.gcd a.natAbs b.natAbs : Nat) : Int))) := wO_some ..
def kSS (Q : RV → Ρ → Prop) : RV → Ρ → Prop
  | .fz d, ρ => wO (sortSetD d) fun r => Q r ρ
  | _, _ => False
theorem kSS_fz (Q d ρ) : kSS Q (.fz d) ρ = wO (sortSetD d) fun r => Q r ρ := rfl
theorem wE_sortSet (ρ : Ρ) (Q : RV → Ρ → Prop) (f) : wE (fSortSet f) ρ Q = wE f ρ (kF (kSS Q)) := by
  rw [← wE_F]
  show wO (Option.bind _ _) _ = _
  rw [wO_bind]
  show wO _ _ = wO _ _
  congr 1; funext p
  obtain ⟨r, ρ1⟩ := p
  cases r with
  | fz d =>
    show wO (Option.bind _ _) _ = _
    rw [wO_bind]
    simp only [wO_some]; rfl
  | _ => exact wO_none _
theorem w_sortSetI (is : List Int) (Q : RV → Prop) : wO (sortSetD (.tuple (is.map .int))) Q = (is.length < 64 ∧ Q (.fr (.list ((srtI is).map .int)))) := by
  show wO (Option.bind _ _) _ = _
  rw [intsOf_map]
  show wO (if _ then _ else _) _ = _
  rw [wO_if, wO_some]
def srtN (l : List Nat) : List Nat := (srtI (l.map fun n : Nat => (n : Int))).map Int.toNat
theorem srtN_mem {l : List Nat} {z : Nat} : z ∈ srtN l ↔ z ∈ l := by
  unfold srtN
  rw [List.mem_map]
  constructor
  · rintro ⟨i, hi, rfl⟩
    obtain ⟨n, hn, rfl⟩ := List.mem_map.mp (srtI_mem.mp hi)
    exact hn
  · intro h
    exact ⟨(z : Int), srtI_mem.mpr (List.mem_map.mpr ⟨z, h, rfl⟩), rfl⟩
theorem srtN_map (l : List Nat) : (srtI (l.map fun n : Nat => (n : Int))).map PyData.int = (srtN l).map nI := by
  unfold srtN
  rw [List.map_map]
  refine List.map_congr_left fun i hi => ?_
  obtain ⟨n, _, rfl⟩ := List.mem_map.mp (srtI_mem.mp hi)
  rfl
theorem srtN_len (l : List Nat) : (srtN l).length ≤ l.length := by
  unfold srtN
  have := srtI_len (l.map fun n : Nat => (n : Int))
  rw [List.length_map] at *; exact this
theorem w_sortSetN (l : List Nat) (Q : RV → Prop) : wO (sortSetD (.tuple (l.map nI))) Q = (l.length < 64 ∧ Q (.fr (.list ((srtN l).map nI)))) := by
  rw [nI_map, w_sortSetI, List.length_map, srtN_map]
/-- a name that may own a list -/
def oz : Option (Bool × D) → Slot
  | none => .no
  | some (false, d) => .val d
  | some (true, d) => .own d
theorem oz_own (d : D) : oz (some (true, d)) = .own d := rfl
theorem oz_val (d : D) : oz (some (false, d)) = .val d := rfl
theorem kW_oz (i ρ t k o) : kW i ρ t k (oz o) = wP ρ i t k := match o with
  | none => rfl
  | some (false, _) => rfl
  | some (true, _) => rfl
/-! slices -/
theorem wX_no (ρ : Ρ) (Q : Option Int → Ρ → Prop) : wX oNo ρ Q = Q none ρ := wO_some ..
def kOI (Q : Option Int → Ρ → Prop) : RV → Ρ → Prop
  | .fz (.int i), ρ => Q (some i) ρ
  | _, _ => False
theorem kOI_i (Q i ρ) : kOI Q (.fz (.int i)) ρ = Q (some i) ρ := rfl
theorem wX_yes (ρ : Ρ) (Q : Option Int → Ρ → Prop) (f) : wX (oYes f) ρ Q = wE f ρ (kF (kOI Q)) := by
  rw [← wE_F]
  show wO (Option.bind _ _) _ = _
  rw [wO_bind]
  show wO _ _ = wO _ _
  congr 1; funext p
  obtain ⟨r, ρ1⟩ := p
  cases r with
  | fz d => cases d <;> first | exact wO_some .. | exact wO_none _
  | _ => exact wO_none _
theorem wE_sl (ρ : Ρ) (Q : RV → Ρ → Prop) (g fo fl fh) : wE (fSl g fo fl fh) ρ Q = wE fo ρ (kF fun p ρ1 => wX fl ρ1 fun lo ρ2 => wX fh ρ2 fun hi ρ3 => wR ρ3 p fun d => wO (g d lo hi) fun r => Q r ρ3) := by
  rw [← wE_F]
  show wO (Option.bind _ _) _ = _
  rw [wO_bind]
  show wO _ _ = wO _ _
  congr 1; funext p
  rw [wO_bind]
  show wO _ _ = wO _ _
  congr 1; funext l
  rw [wO_bind]
  show wO _ _ = wO _ _
  congr 1; funext h
  rw [wO_bind, wO_rs]
  congr 1; funext d
  rw [wO_bind]
  simp only [wO_some]
theorem w_slT (ds : List D) (lo hi) (Q : RV → Prop) : wO (slD (.tuple ds) lo hi) Q = Q (.fz (.tuple (cutD ds lo hi))) := wO_some ..
theorem w_slL (ds : List D) (lo hi) (Q : RV → Prop) : wO (slD (.list ds) lo hi) Q = kSz ds (Q (.fr (.list (cutD ds lo hi)))) := by
  show wO (if _ then _ else _) Q = _
  rw [wO_if, wO_some]; rfl
theorem cut_take (ds : List D) (n : Nat) : cutD ds none (some (n : Int)) = ds.take n := by
  unfold cutD
  rw [HT.sIx_none, HT.sIx_nat, List.drop_zero, Nat.sub_zero]
  rcases Nat.le_total n ds.length with h | h
  · rw [Nat.min_eq_left h]
  · rw [Nat.min_eq_right h, List.take_of_length_le (Nat.le_refl _), List.take_of_length_le h]
theorem cut_drop (ds : List D) (n : Nat) : cutD ds (some (n : Int)) none = ds.drop n := by
  unfold cutD
  rw [HT.sIx_none, HT.sIx_nat]
  rcases Nat.le_total n ds.length with h | h
  · rw [Nat.min_eq_left h, List.take_of_length_le (by rw [List.length_drop]; omega)]
  · rw [Nat.min_eq_right h, List.drop_of_length_le (Nat.le_refl _), List.drop_of_length_le h]; simp
/-! while -/
theorem wW_rec {c : TF} {b : SF} {Q : Ctl → Ρ → Prop} (I : Nat → Ρ → Prop) (h : ∀ m ρ, I m ρ → wT c ρ fun t ρ1 => (t = true → wS b ρ1 (kL (fun ρ2 => ∃ m', m' < m ∧ I m' ρ2) Q)) ∧ (t = false → Q .nx ρ1)) :
    ∀ (n m : Nat) (ρ : Ρ), I m ρ → m < n → wW c b n ρ Q
  | 0, m, ρ, _, hn => absurd hn (Nat.not_lt_zero _)
  | n + 1, m, ρ, hI, hn => by
    show wO (Option.bind _ _) _
    rw [wO_bind]
    refine wO.mono (h m ρ hI) fun p hp => ?_
    rw [wO_cond]
    refine ⟨fun ht => ?_, fun ht => ?_⟩
    · rw [wO_bind]
      refine wO.mono (hp.1 ht) fun q hq => ?_
      obtain ⟨c', ρ2⟩ := q
      cases c' with
      | nx =>
        obtain ⟨m', hm, hI'⟩ := hq
        exact wW_rec I h n m' ρ2 hI' (by omega)
      | bk => exact wO_of rfl hq
      | rt r => exact wO_of rfl hq
    · rw [wO_some]; exact hp.2 ht
theorem w_isB (a b : Bool) (Q : RV → Prop) : wO (isB (.bool a) (.bool b)) Q = Q (.fz (.bool (decide (a = b)))) := wO_some ..
theorem w_notB (a b : Bool) (Q : RV → Prop) : wO (notB (.bool a) (.bool b)) Q = Q (.fz (.bool (!decide (a = b)))) := wO_some ..
theorem w_revL (ds : List D) (Q : RV → Prop) : wO (revD (.list ds)) Q = kSz ds (Q (.fr (.list ds.reverse))) := by
  show wO (if _ then _ else _) Q = _
  rw [wO_if, wO_some]; rfl
theorem eqvAll_nn : ∀ l m : List Nat, PyData.eqvAll (l.map nI) (m.map nI) = decide (l = m)
  | [], [] => rfl
  | [], _ :: _ => rfl
  | _ :: _, [] => rfl
  | a :: l, b :: m => by
    show (PyData.eqv (nI a) (nI b) && PyData.eqvAll (l.map nI) (m.map nI)) = _
    rw [eqvAll_nn l m, show PyData.eqv (nI a) (nI b) = decide (a = b) from eqv_nn a b]
    by_cases h : a = b <;> by_cases h2 : l = m <;> simp [h, h2]
theorem w_eqLN (l m : List Nat) (Q : RV → Prop) : wO (eqD (.list (l.map nI)) (.list (m.map nI))) Q = Q (.fz (.bool (decide (l = m)))) := by
  show wO (if _ then _ else _) Q = _
  rw [wO_if, Pl.shapedL (n := 0) (plN l) (by decide), Pl.shapedL (n := 0) (plN m) (by decide), rB, wO_some, ← eqvAll_nn]
  exact propext ⟨fun h => h.2, fun h => ⟨rfl, h⟩⟩
theorem w_neLN (l m : List Nat) (Q : RV → Prop) : wO (neD (.list (l.map nI)) (.list (m.map nI))) Q = Q (.fz (.bool (!decide (l = m)))) := by
  show wO (if _ then _ else _) Q = _
  rw [wO_if, Pl.shapedL (n := 0) (plN l) (by decide), Pl.shapedL (n := 0) (plN m) (by decide), rB, wO_some, ← eqvAll_nn]
  exact propext ⟨fun h => h.2, fun h => ⟨rfl, h⟩⟩
theorem w_eqTN (l m : List Nat) (Q : RV → Prop) : wO (eqD (.tuple (l.map nI)) (.tuple (m.map nI))) Q = Q (.fz (.bool (decide (l = m)))) := by
  show wO (if _ then _ else _) Q = _
  rw [wO_if, Pl.shapedT (n := 0) (plN l) (by decide), Pl.shapedT (n := 0) (plN m) (by decide), rB, wO_some, ← eqvAll_nn]
  exact propext ⟨fun h => h.2, fun h => ⟨rfl, h⟩⟩
theorem w_neTN (l m : List Nat) (Q : RV → Prop) : wO (neD (.tuple (l.map nI)) (.tuple (m.map nI))) Q = Q (.fz (.bool (!decide (l = m)))) := by
  show wO (if _ then _ else _) Q = _
  rw [wO_if, Pl.shapedT (n := 0) (plN l) (by decide), Pl.shapedT (n := 0) (plN m) (by decide), rB, wO_some, ← eqvAll_nn]
  exact propext ⟨fun h => h.2, fun h => ⟨rfl, h⟩⟩
theorem w_neb (a b : Bool) (Q : RV → Prop) : wO (neD (.bool a) (.bool b)) Q = Q (.fz (.bool (!(a == b)))) := by
  show wO (if (true : Bool) = true then rB (!(a == b)) else none) Q = _
  rw [if_pos rfl]; exact wO_some ..
end Ev


set_option Elab.async false
set_option linter.all false
/-! Ev16: fractions -/
namespace Ev
open PySem PySem.Spec L2
abbrev WFUEL : Nat := 1000000
def B_fraction : SF := (sSeq (sSet 2 (fArgs gcdD (aCons (fB 0) (aCons (fB 1) aNil))))
  (sSeq (sIf (fTst (fBin ltD (fB 1) (fC (.int 0))))
  (sSet 2 (fUn negD (fB 2)))
  sNx)
  (sRet (fTup (aCons (fBin fdivD (fB 0) (fB 2)) (aCons (fBin fdivD (fB 1) (fB 2)) aNil))))))
def F_fraction : Fn := fnOf 2 3 B_fraction
def B_is_less : SF := (sRet (fBin ltD (fBin mulD (fBin ixD (fB 0) (fC (.int 0))) (fBin ixD (fB 1) (fC (.int 1)))) (fBin mulD (fBin ixD (fB 1) (fC (.int 0))) (fBin ixD (fB 0) (fC (.int 1))))))
def F_is_less : Fn := fnOf 2 2 B_is_less
def B_plus_of : SF := (sRet (fCall F_fraction (aCons (fBin addD (fBin mulD (fBin ixD (fB 0) (fC (.int 0))) (fBin ixD (fB 1) (fC (.int 1)))) (fBin mulD (fBin ixD (fB 1) (fC (.int 0))) (fBin ixD (fB 0) (fC (.int 1))))) (aCons (fBin mulD (fBin ixD (fB 0) (fC (.int 1))) (fBin ixD (fB 1) (fC (.int 1)))) aNil))))
def F_plus_of : Fn := fnOf 2 2 B_plus_of
def B_minus_of : SF := (sRet (fCall F_fraction (aCons (fBin subD (fBin mulD (fBin ixD (fB 0) (fC (.int 0))) (fBin ixD (fB 1) (fC (.int 1)))) (fBin mulD (fBin ixD (fB 1) (fC (.int 0))) (fBin ixD (fB 0) (fC (.int 1))))) (aCons (fBin mulD (fBin ixD (fB 0) (fC (.int 1))) (fBin ixD (fB 1) (fC (.int 1)))) aNil))))
def F_minus_of : Fn := fnOf 2 2 B_minus_of
def B_lowest : SF := (sSeq (sPar 2 3 (aCons (fArgs absD (aCons (fB 0) aNil)) (aCons (fArgs absD (aCons (fB 1) aNil)) aNil)))
  (sSeq (sWhile WFUEL (fTst (fBin gtD (fB 3) (fC (.int 0))))
  (sPar 2 3 (aCons (fV 3) (aCons (fBin modD (fArgs intD (aCons (fB 2) aNil)) (fB 3)) aNil))))
  (sSeq (sIf (fTst (fBin ltD (fB 1) (fC (.int 0))))
  (sSet 2 (fUn negD (fB 2)))
  sNx)
  (sRet (fTup (aCons (fBin fdivD (fB 0) (fB 2)) (aCons (fBin fdivD (fB 1) (fB 2)) aNil)))))))
def F_lowest : Fn := fnOf 2 4 B_lowest
def B_times_of : SF := (sRet (fCall F_fraction (aCons (fBin mulD (fBin ixD (fB 0) (fC (.int 0))) (fBin ixD (fB 1) (fC (.int 0)))) (aCons (fBin mulD (fBin ixD (fB 0) (fC (.int 1))) (fBin ixD (fB 1) (fC (.int 1)))) aNil))))
def F_times_of : Fn := fnOf 2 2 B_times_of

/-- a fraction as data -/
def fr (q : Rat) : D := .tuple [.int q.num, .int (q.den : Int)]
theorem at0 (a b : D) : atD [a, b] 0 = some a := rfl
theorem at1 (a b : D) : atD [a, b] 1 = some b := rfl
theorem divOk_of {j : Int} (h : j ≠ 0) (hs : j.natAbs < 2 ^ 9000) : divOk j = true := by
  unfold divOk
  have h0 : j.natAbs ≠ 0 := by omega
  rw [Bool.and_eq_true, decide_eq_true_eq, decide_eq_true_eq]
  exact ⟨h, (Nat.log2_lt h0).mpr hs⟩
theorem low_num {n d : Int} (hd : d ≠ 0) {g : Nat} (hg : g = Nat.gcd n.natAbs d.natAbs) : n.fdiv (if d < 0 then -(g : Int) else g) = (Rat.divInt n d).num := by
  have hgd : (g : Int) ∣ n := by rw [hg]; exact Int.ofNat_dvd_left.mpr (Nat.gcd_dvd_left ..)
  have e : d.gcd n = g := by rw [hg, Int.gcd, Nat.gcd_comm]
  rw [Rat.num_divInt, e]
  by_cases h : d < 0
  · rw [if_pos h, Int.sign_eq_neg_one_of_neg h, Int.fdiv_eq_ediv_of_dvd (Int.neg_dvd.mpr hgd), Int.ediv_neg, Int.neg_mul, Int.one_mul, Int.neg_ediv_of_dvd hgd]
  · rw [if_neg h, Int.sign_eq_one_of_pos (by omega), Int.fdiv_eq_ediv_of_dvd hgd, Int.one_mul]
theorem low_den {n d : Int} (hd : d ≠ 0) {g : Nat} (hg : g = Nat.gcd n.natAbs d.natAbs) : d.fdiv (if d < 0 then -(g : Int) else g) = ((Rat.divInt n d).den : Int) := by
  have hgd : (g : Int) ∣ d := by rw [hg]; exact Int.ofNat_dvd_left.mpr (Nat.gcd_dvd_right ..)
  have e : d.gcd n = g := by rw [hg, Int.gcd, Nat.gcd_comm]
  rw [Rat.den_divInt, if_neg hd, e]
  by_cases h : d < 0
  · rw [if_pos h, Int.fdiv_eq_ediv_of_dvd (Int.neg_dvd.mpr hgd), Int.ediv_neg, ← Int.neg_ediv_of_dvd hgd, show -d = (d.natAbs : Int) by omega]; rfl
  · rw [if_neg h, Int.fdiv_eq_ediv_of_dvd hgd]
    show d / (g : Int) = ((d.natAbs / g : Nat) : Int)
    rw [Int.natCast_ediv, show ((d.natAbs : Nat) : Int) = d by omega]
theorem low_ok {n d : Int} (hd : d ≠ 0) (hs : d.natAbs < 2 ^ 9000) {g : Nat} (hg : g = Nat.gcd n.natAbs d.natAbs) : divOk (g : Int) = true ∧ divOk (-(g : Int)) = true := by
  have h0 : 0 < g := by rw [hg]; exact Nat.gcd_pos_of_pos_right _ (by omega)
  have h1 : g ≤ d.natAbs := by rw [hg]; exact Nat.gcd_le_right _ (by omega)
  exact ⟨divOk_of (by omega) (by omega), divOk_of (by omega) (by omega)⟩
theorem fraction_eq (n d : Int) (hd : d ≠ 0) (hs : d.natAbs < 2 ^ 9000) : F_fraction [.val (.int n), .val (.int d)] = some (.fz (fr (Rat.divInt n d)), []) := by
  refine eq_of_wO (wO_fn rfl ?_)
  unfold B_fraction
  obtain ⟨k1, k2⟩ := low_ok hd hs (rfl : Nat.gcd n.natAbs d.natAbs = _)
  have e1 := low_num (n := n) hd rfl
  have e2 := low_den (n := n) hd rfl
  simp only [↓wO_some, ↓wO_none, ↓wSl_0, ↓wSl_s, ↓wP_0, ↓wP_s, ↓kW_no, ↓kW_val, ↓kW_own, ↓kW_ov, ↓wO_setSlot, ↓wE_C, ↓kB_val, ↓kB_own, ↓kB_io, ↓wE_B, ↓kV_val, ↓kV_own, ↓wE_V, ↓kM_val, ↓kM_own, ↓wE_M, ↓kF_fz, ↓kF_bw, ↓kF_fr, ↓wE_F, ↓wR_fz, ↓kCt_val, ↓kCt_own, ↓kCt_io, ↓wR_bw, ↓wE_bin, ↓wE_un, ↓wA_nil, ↓kA_fz, ↓kA_bw, ↓kA_fr, ↓wA_cons, ↓wRs_nil, ↓wRs_cons, ↓wE_args, ↓wZ_nil, ↓wZ_cons, ↓kSz_0, ↓kSz_1, ↓kSz_2, ↓kSz_3, ↓kSz_4, ↓kSz_5, ↓kSz_6, ↓kSz_7, ↓kSz_8, ↓wE_tup, ↓wE_lst, ↓kT_bool, ↓wT_tst, ↓wT_and, ↓wT_or, ↓wT_not, ↓wT_yes, ↓wE_bool, ↓wE_if, ↓kAs_val, ↓kAs_own, ↓kAs_io, ↓wAs_nil, ↓wAs_fz, ↓wAs_bw, ↓kOut_nil, ↓kOut_nilr, ↓kPut_own, ↓kPut_io, ↓kOut_one, ↓kOut_oner, ↓wE_call, ↓w_add, ↓w_sub, ↓w_mul, ↓w_mulI, ↓w_fdiv, ↓w_mod, ↓w_neg, ↓w_lt, ↓w_le, ↓w_gt, ↓w_ge, ↓w_eq, ↓w_ne, ↓w_abs, ↓w_min2, ↓w_max2, ↓w_int, ↓w_intb, ↓w_pow, ↓w_lenL, ↓w_lenT, ↓w_ixL, ↓w_ixT, ↓w_tupL, ↓w_tupT, ↓w_listL, ↓w_listT, ↓kS_nx, ↓kS_bk, ↓kS_rt, ↓wS_nx, ↓wS_bk, ↓wS_seq, ↓kSt_fz, ↓kSt_fr, ↓wS_set, ↓kR_fz, ↓kR_fr, ↓wS_ret, ↓wS_retN, ↓wS_drop, ↓wS_if, ↓kAg_val, ↓wS_aug, ↓wG_N, ↓wG_T, ↓wGs_nil, ↓wGs_cons, ↓kIt_L, ↓kIt_T, ↓wI_seq, ↓kG1_i, ↓wI_rg1, ↓kG2_i, ↓wI_rg2, ↓wS_for, ↓wS_while, ↓kAz_fz, ↓wS_asg, ↓kL_nx, ↓kL_bk, ↓kL_rt, ↓wE_comp, ↓wU_nil, ↓wU_io, ↓wU_val, ↓kFn_fz, ↓kFn_fr, ↓kFn_nx, ↓wM_append, ↓wM_pop, ↓wM_rev, ↓wM_ins, ↓wM_popAt, ↓kMt_own, ↓kMt_io, ↓wE_mut, ↓wE_mut0, ↓kSi_i, ↓kSo_fz, ↓wS_store, ↓wE_meth, ↓w_addLL, ↓w_addTT, ↓w_mulLI, ↓w_mulTI, ↓w_inTI, ↓w_inLI, ↓w_inTN, ↓w_inLN, ↓w_sumTI, ↓w_sumLI, ↓w_sumTN, ↓w_sumLN, ↓w_cntTI, ↓w_cntTN, ↓w_cntLI, ↓w_cntLN, ↓kTR1_i, ↓kLR1_i, ↓wE_tupRg1, ↓wE_listRg1, ↓kTR2b_i, ↓kTR2_i, ↓kLR2b_i, ↓kLR2_i, ↓w_eqLN, ↓w_neLN, ↓w_eqTN, ↓w_neTN, ↓w_neb, ↓w_isB, ↓w_notB, ↓w_revL, ↓w_iadd, ↓kW_oz, ↓kPar_2, ↓wS_par, ↓kCh2_b, ↓kCh_fz, ↓wE_chain, ↓w_gcd, ↓kSS_fz, ↓wE_sortSet, ↓w_sortSetI, ↓w_sortSetN, ↓wX_no, ↓kOI_i, ↓wX_yes, ↓wE_sl, ↓w_slT, ↓w_slL, pl_1, pl_2, wipe_1, wipe_2, unw_1, unw_2, List.getD_cons_zero, List.getD_cons_succ, List.set_cons_zero, List.set_cons_succ, List.cons_append, List.nil_append, List.replicate_succ, List.replicate_zero, Nat.reduceSub, Nat.reduceAdd, Nat.reduceLT, plain_no, plain_val, plain_ov, Int.natCast_zero, Int.ofNat_zero, Int.cast_ofNat_Int, decide_eq_true_eq, decide_eq_false_iff_not, Bool.not_eq_true', Bool.not_eq_false', Bool.not_true, Bool.not_false, if_true, if_false, true_and, and_true, forall_const, decide_true, decide_false, Int.toNat_natCast, Int.reduceEq, Int.reduceNe, Int.reduceLT, Int.reduceLE, Int.zero_add, implies_true, true_implies, not_true_eq_false, not_false_eq_true, false_implies, false_and, and_false, reduceCtorEq, ite_true, ite_false, eq_self, List.length_cons, List.length_nil, oz_own, oz_val, k1, k2]
  refine ⟨fun h => ?_, fun h => ?_⟩
  · rw [if_pos h] at e1 e2
    rw [e1, e2]; rfl
  · rw [if_neg h] at e1 e2
    rw [e1, e2]; rfl
/-- sizes -/
def Sz (q : Rat) (k : Nat) : Prop := q.num.natAbs < 2 ^ k ∧ q.den < 2 ^ k
theorem Sz.mono {q : Rat} {j k : Nat} (h : Sz q j) (hk : j ≤ k) : Sz q k :=
  ⟨Nat.lt_of_lt_of_le h.1 (Nat.pow_le_pow_right (by decide) hk), Nat.lt_of_lt_of_le h.2 (Nat.pow_le_pow_right (by decide) hk)⟩
theorem Sz.divInt {n d : Int} {k : Nat} (h1 : n.natAbs < 2 ^ k) (h2 : d.natAbs < 2 ^ k) (hd : d ≠ 0) : Sz (Rat.divInt n d) k := by
  have e1 := low_num (n := n) hd rfl
  have e2 := low_den (n := n) hd rfl
  have h0 : 0 < Nat.gcd n.natAbs d.natAbs := Nat.gcd_pos_of_pos_right _ (by omega)
  have hn : (Rat.divInt n d).num.natAbs ≤ n.natAbs := by
    rw [Rat.num_divInt, Int.natAbs_ediv_of_dvd, Int.natAbs_mul]
    · refine Nat.le_trans (Nat.div_le_self ..) ?_
      rcases Int.sign_trichotomy d with z | z | z <;> rw [z] <;> simp
    · have : ((d.gcd n : Nat) : Int) ∣ n := by rw [Int.gcd]; exact Int.ofNat_dvd_left.mpr (Nat.gcd_dvd_right ..)
      exact Int.dvd_trans this (Int.dvd_mul_left ..)
  have hq : (Rat.divInt n d).den ≤ d.natAbs := by
    rw [Rat.den_divInt, if_neg hd]
    exact Nat.div_le_self ..
  exact ⟨by omega, by omega⟩
theorem natAbs_mul_lt {a b : Int} {j k : Nat} (h1 : a.natAbs < 2 ^ j) (h2 : b.natAbs < 2 ^ k) : (a * b).natAbs < 2 ^ (j + k) := by
  rw [Int.natAbs_mul, Nat.pow_add]
  rcases Nat.eq_zero_or_pos b.natAbs with z | z
  · rw [z, Nat.mul_zero]; exact Nat.mul_pos (Nat.pow_pos (by decide)) (Nat.pow_pos (by decide))
  · exact Nat.mul_lt_mul_of_lt_of_le h1 (Nat.le_of_lt h2) (Nat.pow_pos (by decide))
theorem mulOk_sz {a b : Int} {j k : Nat} (h1 : a.natAbs < 2 ^ j) (h2 : b.natAbs < 2 ^ k) (h : j + k ≤ 900000) : mulOk a b = true := by
  have hl : ∀ {x j : Nat}, x < 2 ^ j → x.log2 ≤ j := fun {x j} hx => by
    rcases Nat.eq_zero_or_pos x with z | z
    · subst z; simp
    · exact Nat.le_of_lt ((Nat.log2_lt (by omega)).mpr hx)
  unfold mulOk
  have := hl h1
  have := hl h2
  have h3 : a.natAbs.log2 + b.natAbs.log2 < 1000000 := by omega
  rw [decide_eq_true h3, Bool.or_true]
theorem den_ne (q : Rat) : ((q.den : Nat) : Int) ≠ 0 := by have := q.den_nz; omega
theorem times_eq {p q : Rat} {j k : Nat} (h1 : Sz p j) (h2 : Sz q k) (hk : j + k ≤ 9000) : F_times_of [.val (fr p), .val (fr q)] = some (.fz (fr (p * q)), []) := by
  refine eq_of_wO (wO_fn rfl ?_)
  unfold B_times_of fr
  have hd : ((p.den : Int) * q.den) ≠ 0 := Int.mul_ne_zero (den_ne p) (den_ne q)
  have hs : ((p.den : Int) * q.den).natAbs < 2 ^ 9000 := Nat.lt_of_lt_of_le (natAbs_mul_lt (a := p.den) (b := q.den) h1.2 h2.2) (Nat.pow_le_pow_right (by decide) hk)
  have m1 := mulOk_sz h1.1 h2.1 (by omega)
  have m2 := mulOk_sz (a := p.den) (b := q.den) h1.2 h2.2 (by omega)
  have e : Rat.divInt (p.num * q.num) ((p.den : Int) * q.den) = p * q := by
    rw [Rat.mul_def', ← Int.natCast_mul, Rat.divInt_ofNat]
  simp only [↓wO_some, ↓wO_none, ↓wSl_0, ↓wSl_s, ↓wP_0, ↓wP_s, ↓kW_no, ↓kW_val, ↓kW_own, ↓kW_ov, ↓wO_setSlot, ↓wE_C, ↓kB_val, ↓kB_own, ↓kB_io, ↓wE_B, ↓kV_val, ↓kV_own, ↓wE_V, ↓kM_val, ↓kM_own, ↓wE_M, ↓kF_fz, ↓kF_bw, ↓kF_fr, ↓wE_F, ↓wR_fz, ↓kCt_val, ↓kCt_own, ↓kCt_io, ↓wR_bw, ↓wE_bin, ↓wE_un, ↓wA_nil, ↓kA_fz, ↓kA_bw, ↓kA_fr, ↓wA_cons, ↓wRs_nil, ↓wRs_cons, ↓wE_args, ↓wZ_nil, ↓wZ_cons, ↓kSz_0, ↓kSz_1, ↓kSz_2, ↓kSz_3, ↓kSz_4, ↓kSz_5, ↓kSz_6, ↓kSz_7, ↓kSz_8, ↓wE_tup, ↓wE_lst, ↓kT_bool, ↓wT_tst, ↓wT_and, ↓wT_or, ↓wT_not, ↓wT_yes, ↓wE_bool, ↓wE_if, ↓kAs_val, ↓kAs_own, ↓kAs_io, ↓wAs_nil, ↓wAs_fz, ↓wAs_bw, ↓kOut_nil, ↓kOut_nilr, ↓kPut_own, ↓kPut_io, ↓kOut_one, ↓kOut_oner, ↓wE_call, ↓w_add, ↓w_sub, ↓w_mul, ↓w_mulI, ↓w_fdiv, ↓w_mod, ↓w_neg, ↓w_lt, ↓w_le, ↓w_gt, ↓w_ge, ↓w_eq, ↓w_ne, ↓w_abs, ↓w_min2, ↓w_max2, ↓w_int, ↓w_intb, ↓w_pow, ↓w_lenL, ↓w_lenT, ↓w_ixL, ↓w_ixT, ↓w_tupL, ↓w_tupT, ↓w_listL, ↓w_listT, ↓kS_nx, ↓kS_bk, ↓kS_rt, ↓wS_nx, ↓wS_bk, ↓wS_seq, ↓kSt_fz, ↓kSt_fr, ↓wS_set, ↓kR_fz, ↓kR_fr, ↓wS_ret, ↓wS_retN, ↓wS_drop, ↓wS_if, ↓kAg_val, ↓wS_aug, ↓wG_N, ↓wG_T, ↓wGs_nil, ↓wGs_cons, ↓kIt_L, ↓kIt_T, ↓wI_seq, ↓kG1_i, ↓wI_rg1, ↓kG2_i, ↓wI_rg2, ↓wS_for, ↓wS_while, ↓kAz_fz, ↓wS_asg, ↓kL_nx, ↓kL_bk, ↓kL_rt, ↓wE_comp, ↓wU_nil, ↓wU_io, ↓wU_val, ↓kFn_fz, ↓kFn_fr, ↓kFn_nx, ↓wM_append, ↓wM_pop, ↓wM_rev, ↓wM_ins, ↓wM_popAt, ↓kMt_own, ↓kMt_io, ↓wE_mut, ↓wE_mut0, ↓kSi_i, ↓kSo_fz, ↓wS_store, ↓wE_meth, ↓w_addLL, ↓w_addTT, ↓w_mulLI, ↓w_mulTI, ↓w_inTI, ↓w_inLI, ↓w_inTN, ↓w_inLN, ↓w_sumTI, ↓w_sumLI, ↓w_sumTN, ↓w_sumLN, ↓w_cntTI, ↓w_cntTN, ↓w_cntLI, ↓w_cntLN, ↓kTR1_i, ↓kLR1_i, ↓wE_tupRg1, ↓wE_listRg1, ↓kTR2b_i, ↓kTR2_i, ↓kLR2b_i, ↓kLR2_i, ↓w_eqLN, ↓w_neLN, ↓w_eqTN, ↓w_neTN, ↓w_neb, ↓w_isB, ↓w_notB, ↓w_revL, ↓w_iadd, ↓kW_oz, ↓kPar_2, ↓wS_par, ↓kCh2_b, ↓kCh_fz, ↓wE_chain, ↓w_gcd, ↓kSS_fz, ↓wE_sortSet, ↓w_sortSetI, ↓w_sortSetN, ↓wX_no, ↓kOI_i, ↓wX_yes, ↓wE_sl, ↓w_slT, ↓w_slL, pl_1, pl_2, wipe_1, wipe_2, unw_1, unw_2, List.getD_cons_zero, List.getD_cons_succ, List.set_cons_zero, List.set_cons_succ, List.cons_append, List.nil_append, List.replicate_succ, List.replicate_zero, Nat.reduceSub, Nat.reduceAdd, Nat.reduceLT, plain_no, plain_val, plain_ov, Int.natCast_zero, Int.ofNat_zero, Int.cast_ofNat_Int, decide_eq_true_eq, decide_eq_false_iff_not, Bool.not_eq_true', Bool.not_eq_false', Bool.not_true, Bool.not_false, if_true, if_false, true_and, and_true, forall_const, decide_true, decide_false, Int.toNat_natCast, Int.reduceEq, Int.reduceNe, Int.reduceLT, Int.reduceLE, Int.zero_add, implies_true, true_implies, not_true_eq_false, not_false_eq_true, false_implies, false_and, and_false, reduceCtorEq, ite_true, ite_false, eq_self, List.length_cons, List.length_nil, oz_own, oz_val, at0, at1, m1, m2, fraction_eq _ _ hd hs, e, fr]
theorem Sz.mul {p q : Rat} {j k : Nat} (h1 : Sz p j) (h2 : Sz q k) : Sz (p * q) (j + k) := by
  have e : Rat.divInt (p.num * q.num) ((p.den : Int) * q.den) = p * q := by
    rw [Rat.mul_def', ← Int.natCast_mul, Rat.divInt_ofNat]
  rw [← e]
  exact Sz.divInt (natAbs_mul_lt h1.1 h2.1) (natAbs_mul_lt (a := p.den) (b := q.den) h1.2 h2.2) (Int.mul_ne_zero (den_ne p) (den_ne q))
theorem fr_pl (n : Nat) (q : Rat) : Pl (n + 1) (fr q) := .tuple (by simp) fun d hd => by
  simp only [List.mem_cons, List.not_mem_nil, or_false] at hd
  rcases hd with rfl | rfl <;> exact .int _
theorem is_less_eq {p q : Rat} {j k : Nat} (h1 : Sz p j) (h2 : Sz q k) (hk : j + k ≤ 900000) : F_is_less [.val (fr p), .val (fr q)] = some (.fz (.bool (decide (p < q))), []) := by
  refine eq_of_wO (wO_fn rfl ?_)
  unfold B_is_less fr
  have m1 := mulOk_sz (a := p.num) (b := q.den) h1.1 h2.2 hk
  have m2 := mulOk_sz (a := q.num) (b := p.den) h2.1 h1.2 (by omega)
  simp only [↓wO_some, ↓wO_none, ↓wSl_0, ↓wSl_s, ↓wP_0, ↓wP_s, ↓kW_no, ↓kW_val, ↓kW_own, ↓kW_ov, ↓wO_setSlot, ↓wE_C, ↓kB_val, ↓kB_own, ↓kB_io, ↓wE_B, ↓kV_val, ↓kV_own, ↓wE_V, ↓kM_val, ↓kM_own, ↓wE_M, ↓kF_fz, ↓kF_bw, ↓kF_fr, ↓wE_F, ↓wR_fz, ↓kCt_val, ↓kCt_own, ↓kCt_io, ↓wR_bw, ↓wE_bin, ↓wE_un, ↓wA_nil, ↓kA_fz, ↓kA_bw, ↓kA_fr, ↓wA_cons, ↓wRs_nil, ↓wRs_cons, ↓wE_args, ↓wZ_nil, ↓wZ_cons, ↓kSz_0, ↓kSz_1, ↓kSz_2, ↓kSz_3, ↓kSz_4, ↓kSz_5, ↓kSz_6, ↓kSz_7, ↓kSz_8, ↓wE_tup, ↓wE_lst, ↓kT_bool, ↓wT_tst, ↓wT_and, ↓wT_or, ↓wT_not, ↓wT_yes, ↓wE_bool, ↓wE_if, ↓kAs_val, ↓kAs_own, ↓kAs_io, ↓wAs_nil, ↓wAs_fz, ↓wAs_bw, ↓kOut_nil, ↓kOut_nilr, ↓kPut_own, ↓kPut_io, ↓kOut_one, ↓kOut_oner, ↓wE_call, ↓w_add, ↓w_sub, ↓w_mul, ↓w_mulI, ↓w_fdiv, ↓w_mod, ↓w_neg, ↓w_lt, ↓w_le, ↓w_gt, ↓w_ge, ↓w_eq, ↓w_ne, ↓w_abs, ↓w_min2, ↓w_max2, ↓w_int, ↓w_intb, ↓w_pow, ↓w_lenL, ↓w_lenT, ↓w_ixL, ↓w_ixT, ↓w_tupL, ↓w_tupT, ↓w_listL, ↓w_listT, ↓kS_nx, ↓kS_bk, ↓kS_rt, ↓wS_nx, ↓wS_bk, ↓wS_seq, ↓kSt_fz, ↓kSt_fr, ↓wS_set, ↓kR_fz, ↓kR_fr, ↓wS_ret, ↓wS_retN, ↓wS_drop, ↓wS_if, ↓kAg_val, ↓wS_aug, ↓wG_N, ↓wG_T, ↓wGs_nil, ↓wGs_cons, ↓kIt_L, ↓kIt_T, ↓wI_seq, ↓kG1_i, ↓wI_rg1, ↓kG2_i, ↓wI_rg2, ↓wS_for, ↓wS_while, ↓kAz_fz, ↓wS_asg, ↓kL_nx, ↓kL_bk, ↓kL_rt, ↓wE_comp, ↓wU_nil, ↓wU_io, ↓wU_val, ↓kFn_fz, ↓kFn_fr, ↓kFn_nx, ↓wM_append, ↓wM_pop, ↓wM_rev, ↓wM_ins, ↓wM_popAt, ↓kMt_own, ↓kMt_io, ↓wE_mut, ↓wE_mut0, ↓kSi_i, ↓kSo_fz, ↓wS_store, ↓wE_meth, ↓w_addLL, ↓w_addTT, ↓w_mulLI, ↓w_mulTI, ↓w_inTI, ↓w_inLI, ↓w_inTN, ↓w_inLN, ↓w_sumTI, ↓w_sumLI, ↓w_sumTN, ↓w_sumLN, ↓w_cntTI, ↓w_cntTN, ↓w_cntLI, ↓w_cntLN, ↓kTR1_i, ↓kLR1_i, ↓wE_tupRg1, ↓wE_listRg1, ↓kTR2b_i, ↓kTR2_i, ↓kLR2b_i, ↓kLR2_i, ↓w_eqLN, ↓w_neLN, ↓w_eqTN, ↓w_neTN, ↓w_neb, ↓w_isB, ↓w_notB, ↓w_revL, ↓w_iadd, ↓kW_oz, ↓kPar_2, ↓wS_par, ↓kCh2_b, ↓kCh_fz, ↓wE_chain, ↓w_gcd, ↓kSS_fz, ↓wE_sortSet, ↓w_sortSetI, ↓w_sortSetN, ↓wX_no, ↓kOI_i, ↓wX_yes, ↓wE_sl, ↓w_slT, ↓w_slL, pl_1, pl_2, wipe_1, wipe_2, unw_1, unw_2, List.getD_cons_zero, List.getD_cons_succ, List.set_cons_zero, List.set_cons_succ, List.cons_append, List.nil_append, List.replicate_succ, List.replicate_zero, Nat.reduceSub, Nat.reduceAdd, Nat.reduceLT, plain_no, plain_val, plain_ov, Int.natCast_zero, Int.ofNat_zero, Int.cast_ofNat_Int, decide_eq_true_eq, decide_eq_false_iff_not, Bool.not_eq_true', Bool.not_eq_false', Bool.not_true, Bool.not_false, if_true, if_false, true_and, and_true, forall_const, decide_true, decide_false, Int.toNat_natCast, Int.reduceEq, Int.reduceNe, Int.reduceLT, Int.reduceLE, Int.zero_add, implies_true, true_implies, not_true_eq_false, not_false_eq_true, false_implies, false_and, and_false, reduceCtorEq, ite_true, ite_false, eq_self, List.length_cons, List.length_nil, oz_own, oz_val, at0, at1, m1, m2]
  rw [show (decide (p.num * (q.den : Int) < q.num * (p.den : Int))) = decide (p < q) from decide_eq_decide.mpr (Rat.lt_iff p q).symm]
theorem plus_eq {p q : Rat} {j k : Nat} (h1 : Sz p j) (h2 : Sz q k) (hk : j + k ≤ 9000) : F_plus_of [.val (fr p), .val (fr q)] = some (.fz (fr (p + q)), []) := by
  refine eq_of_wO (wO_fn rfl ?_)
  unfold B_plus_of fr
  have hd : ((p.den : Int) * q.den) ≠ 0 := Int.mul_ne_zero (den_ne p) (den_ne q)
  have hs : ((p.den : Int) * q.den).natAbs < 2 ^ 9000 := Nat.lt_of_lt_of_le (natAbs_mul_lt (a := p.den) (b := q.den) h1.2 h2.2) (Nat.pow_le_pow_right (by decide) hk)
  have m1 := mulOk_sz (a := p.num) (b := q.den) h1.1 h2.2 (by omega)
  have m2 := mulOk_sz (a := q.num) (b := p.den) h2.1 h1.2 (by omega)
  have m3 := mulOk_sz (a := p.den) (b := q.den) h1.2 h2.2 (by omega)
  have e : Rat.divInt (p.num * (q.den : Int) + q.num * (p.den : Int)) ((p.den : Int) * q.den) = p + q := by
    rw [Rat.add_def', ← Int.natCast_mul, Rat.divInt_ofNat]
  simp only [↓wO_some, ↓wO_none, ↓wSl_0, ↓wSl_s, ↓wP_0, ↓wP_s, ↓kW_no, ↓kW_val, ↓kW_own, ↓kW_ov, ↓wO_setSlot, ↓wE_C, ↓kB_val, ↓kB_own, ↓kB_io, ↓wE_B, ↓kV_val, ↓kV_own, ↓wE_V, ↓kM_val, ↓kM_own, ↓wE_M, ↓kF_fz, ↓kF_bw, ↓kF_fr, ↓wE_F, ↓wR_fz, ↓kCt_val, ↓kCt_own, ↓kCt_io, ↓wR_bw, ↓wE_bin, ↓wE_un, ↓wA_nil, ↓kA_fz, ↓kA_bw, ↓kA_fr, ↓wA_cons, ↓wRs_nil, ↓wRs_cons, ↓wE_args, ↓wZ_nil, ↓wZ_cons, ↓kSz_0, ↓kSz_1, ↓kSz_2, ↓kSz_3, ↓kSz_4, ↓kSz_5, ↓kSz_6, ↓kSz_7, ↓kSz_8, ↓wE_tup, ↓wE_lst, ↓kT_bool, ↓wT_tst, ↓wT_and, ↓wT_or, ↓wT_not, ↓wT_yes, ↓wE_bool, ↓wE_if, ↓kAs_val, ↓kAs_own, ↓kAs_io, ↓wAs_nil, ↓wAs_fz, ↓wAs_bw, ↓kOut_nil, ↓kOut_nilr, ↓kPut_own, ↓kPut_io, ↓kOut_one, ↓kOut_oner, ↓wE_call, ↓w_add, ↓w_sub, ↓w_mul, ↓w_mulI, ↓w_fdiv, ↓w_mod, ↓w_neg, ↓w_lt, ↓w_le, ↓w_gt, ↓w_ge, ↓w_eq, ↓w_ne, ↓w_abs, ↓w_min2, ↓w_max2, ↓w_int, ↓w_intb, ↓w_pow, ↓w_lenL, ↓w_lenT, ↓w_ixL, ↓w_ixT, ↓w_tupL, ↓w_tupT, ↓w_listL, ↓w_listT, ↓kS_nx, ↓kS_bk, ↓kS_rt, ↓wS_nx, ↓wS_bk, ↓wS_seq, ↓kSt_fz, ↓kSt_fr, ↓wS_set, ↓kR_fz, ↓kR_fr, ↓wS_ret, ↓wS_retN, ↓wS_drop, ↓wS_if, ↓kAg_val, ↓wS_aug, ↓wG_N, ↓wG_T, ↓wGs_nil, ↓wGs_cons, ↓kIt_L, ↓kIt_T, ↓wI_seq, ↓kG1_i, ↓wI_rg1, ↓kG2_i, ↓wI_rg2, ↓wS_for, ↓wS_while, ↓kAz_fz, ↓wS_asg, ↓kL_nx, ↓kL_bk, ↓kL_rt, ↓wE_comp, ↓wU_nil, ↓wU_io, ↓wU_val, ↓kFn_fz, ↓kFn_fr, ↓kFn_nx, ↓wM_append, ↓wM_pop, ↓wM_rev, ↓wM_ins, ↓wM_popAt, ↓kMt_own, ↓kMt_io, ↓wE_mut, ↓wE_mut0, ↓kSi_i, ↓kSo_fz, ↓wS_store, ↓wE_meth, ↓w_addLL, ↓w_addTT, ↓w_mulLI, ↓w_mulTI, ↓w_inTI, ↓w_inLI, ↓w_inTN, ↓w_inLN, ↓w_sumTI, ↓w_sumLI, ↓w_sumTN, ↓w_sumLN, ↓w_cntTI, ↓w_cntTN, ↓w_cntLI, ↓w_cntLN, ↓kTR1_i, ↓kLR1_i, ↓wE_tupRg1, ↓wE_listRg1, ↓kTR2b_i, ↓kTR2_i, ↓kLR2b_i, ↓kLR2_i, ↓w_eqLN, ↓w_neLN, ↓w_eqTN, ↓w_neTN, ↓w_neb, ↓w_isB, ↓w_notB, ↓w_revL, ↓w_iadd, ↓kW_oz, ↓kPar_2, ↓wS_par, ↓kCh2_b, ↓kCh_fz, ↓wE_chain, ↓w_gcd, ↓kSS_fz, ↓wE_sortSet, ↓w_sortSetI, ↓w_sortSetN, ↓wX_no, ↓kOI_i, ↓wX_yes, ↓wE_sl, ↓w_slT, ↓w_slL, pl_1, pl_2, wipe_1, wipe_2, unw_1, unw_2, List.getD_cons_zero, List.getD_cons_succ, List.set_cons_zero, List.set_cons_succ, List.cons_append, List.nil_append, List.replicate_succ, List.replicate_zero, Nat.reduceSub, Nat.reduceAdd, Nat.reduceLT, plain_no, plain_val, plain_ov, Int.natCast_zero, Int.ofNat_zero, Int.cast_ofNat_Int, decide_eq_true_eq, decide_eq_false_iff_not, Bool.not_eq_true', Bool.not_eq_false', Bool.not_true, Bool.not_false, if_true, if_false, true_and, and_true, forall_const, decide_true, decide_false, Int.toNat_natCast, Int.reduceEq, Int.reduceNe, Int.reduceLT, Int.reduceLE, Int.zero_add, implies_true, true_implies, not_true_eq_false, not_false_eq_true, false_implies, false_and, and_false, reduceCtorEq, ite_true, ite_false, eq_self, List.length_cons, List.length_nil, oz_own, oz_val, at0, at1, m1, m2, m3, fraction_eq _ _ hd hs, e, fr]
theorem minus_eq {p q : Rat} {j k : Nat} (h1 : Sz p j) (h2 : Sz q k) (hk : j + k ≤ 9000) : F_minus_of [.val (fr p), .val (fr q)] = some (.fz (fr (p - q)), []) := by
  refine eq_of_wO (wO_fn rfl ?_)
  unfold B_minus_of fr
  have hd : ((p.den : Int) * q.den) ≠ 0 := Int.mul_ne_zero (den_ne p) (den_ne q)
  have hs : ((p.den : Int) * q.den).natAbs < 2 ^ 9000 := Nat.lt_of_lt_of_le (natAbs_mul_lt (a := p.den) (b := q.den) h1.2 h2.2) (Nat.pow_le_pow_right (by decide) hk)
  have m1 := mulOk_sz (a := p.num) (b := q.den) h1.1 h2.2 (by omega)
  have m2 := mulOk_sz (a := q.num) (b := p.den) h2.1 h1.2 (by omega)
  have m3 := mulOk_sz (a := p.den) (b := q.den) h1.2 h2.2 (by omega)
  have e : Rat.divInt (p.num * (q.den : Int) - q.num * (p.den : Int)) ((p.den : Int) * q.den) = p - q := by
    rw [Rat.sub_def', ← Int.natCast_mul, Rat.divInt_ofNat]
  simp only [↓wO_some, ↓wO_none, ↓wSl_0, ↓wSl_s, ↓wP_0, ↓wP_s, ↓kW_no, ↓kW_val, ↓kW_own, ↓kW_ov, ↓wO_setSlot, ↓wE_C, ↓kB_val, ↓kB_own, ↓kB_io, ↓wE_B, ↓kV_val, ↓kV_own, ↓wE_V, ↓kM_val, ↓kM_own, ↓wE_M, ↓kF_fz, ↓kF_bw, ↓kF_fr, ↓wE_F, ↓wR_fz, ↓kCt_val, ↓kCt_own, ↓kCt_io, ↓wR_bw, ↓wE_bin, ↓wE_un, ↓wA_nil, ↓kA_fz, ↓kA_bw, ↓kA_fr, ↓wA_cons, ↓wRs_nil, ↓wRs_cons, ↓wE_args, ↓wZ_nil, ↓wZ_cons, ↓kSz_0, ↓kSz_1, ↓kSz_2, ↓kSz_3, ↓kSz_4, ↓kSz_5, ↓kSz_6, ↓kSz_7, ↓kSz_8, ↓wE_tup, ↓wE_lst, ↓kT_bool, ↓wT_tst, ↓wT_and, ↓wT_or, ↓wT_not, ↓wT_yes, ↓wE_bool, ↓wE_if, ↓kAs_val, ↓kAs_own, ↓kAs_io, ↓wAs_nil, ↓wAs_fz, ↓wAs_bw, ↓kOut_nil, ↓kOut_nilr, ↓kPut_own, ↓kPut_io, ↓kOut_one, ↓kOut_oner, ↓wE_call, ↓w_add, ↓w_sub, ↓w_mul, ↓w_mulI, ↓w_fdiv, ↓w_mod, ↓w_neg, ↓w_lt, ↓w_le, ↓w_gt, ↓w_ge, ↓w_eq, ↓w_ne, ↓w_abs, ↓w_min2, ↓w_max2, ↓w_int, ↓w_intb, ↓w_pow, ↓w_lenL, ↓w_lenT, ↓w_ixL, ↓w_ixT, ↓w_tupL, ↓w_tupT, ↓w_listL, ↓w_listT, ↓kS_nx, ↓kS_bk, ↓kS_rt, ↓wS_nx, ↓wS_bk, ↓wS_seq, ↓kSt_fz, ↓kSt_fr, ↓wS_set, ↓kR_fz, ↓kR_fr, ↓wS_ret, ↓wS_retN, ↓wS_drop, ↓wS_if, ↓kAg_val, ↓wS_aug, ↓wG_N, ↓wG_T, ↓wGs_nil, ↓wGs_cons, ↓kIt_L, ↓kIt_T, ↓wI_seq, ↓kG1_i, ↓wI_rg1, ↓kG2_i, ↓wI_rg2, ↓wS_for, ↓wS_while, ↓kAz_fz, ↓wS_asg, ↓kL_nx, ↓kL_bk, ↓kL_rt, ↓wE_comp, ↓wU_nil, ↓wU_io, ↓wU_val, ↓kFn_fz, ↓kFn_fr, ↓kFn_nx, ↓wM_append, ↓wM_pop, ↓wM_rev, ↓wM_ins, ↓wM_popAt, ↓kMt_own, ↓kMt_io, ↓wE_mut, ↓wE_mut0, ↓kSi_i, ↓kSo_fz, ↓wS_store, ↓wE_meth, ↓w_addLL, ↓w_addTT, ↓w_mulLI, ↓w_mulTI, ↓w_inTI, ↓w_inLI, ↓w_inTN, ↓w_inLN, ↓w_sumTI, ↓w_sumLI, ↓w_sumTN, ↓w_sumLN, ↓w_cntTI, ↓w_cntTN, ↓w_cntLI, ↓w_cntLN, ↓kTR1_i, ↓kLR1_i, ↓wE_tupRg1, ↓wE_listRg1, ↓kTR2b_i, ↓kTR2_i, ↓kLR2b_i, ↓kLR2_i, ↓w_eqLN, ↓w_neLN, ↓w_eqTN, ↓w_neTN, ↓w_neb, ↓w_isB, ↓w_notB, ↓w_revL, ↓w_iadd, ↓kW_oz, ↓kPar_2, ↓wS_par, ↓kCh2_b, ↓kCh_fz, ↓wE_chain, ↓w_gcd, ↓kSS_fz, ↓wE_sortSet, ↓w_sortSetI, ↓w_sortSetN, ↓wX_no, ↓kOI_i, ↓wX_yes, ↓wE_sl, ↓w_slT, ↓w_slL, pl_1, pl_2, wipe_1, wipe_2, unw_1, unw_2, List.getD_cons_zero, List.getD_cons_succ, List.set_cons_zero, List.set_cons_succ, List.cons_append, List.nil_append, List.replicate_succ, List.replicate_zero, Nat.reduceSub, Nat.reduceAdd, Nat.reduceLT, plain_no, plain_val, plain_ov, Int.natCast_zero, Int.ofNat_zero, Int.cast_ofNat_Int, decide_eq_true_eq, decide_eq_false_iff_not, Bool.not_eq_true', Bool.not_eq_false', Bool.not_true, Bool.not_false, if_true, if_false, true_and, and_true, forall_const, decide_true, decide_false, Int.toNat_natCast, Int.reduceEq, Int.reduceNe, Int.reduceLT, Int.reduceLE, Int.zero_add, implies_true, true_implies, not_true_eq_false, not_false_eq_true, false_implies, false_and, and_false, reduceCtorEq, ite_true, ite_false, eq_self, List.length_cons, List.length_nil, oz_own, oz_val, at0, at1, m1, m2, m3, fraction_eq _ _ hd hs, e, fr]
/-! Euclid's way -/
def mu (a b : Nat) : Nat := if b = 0 then 0 else 2 * (a * b).log2 + (if a < b then 2 else 1)
theorem mu_lt {a b : Nat} (hb : 0 < b) : mu b (a % b) < mu a b := by
  unfold mu
  rw [if_neg (by omega : ¬b = 0)]
  by_cases h0 : a % b = 0
  · rw [if_pos h0]; split <;> omega
  · rw [if_neg h0]
    have hr := Nat.mod_lt a hb
    rw [if_neg (by omega : ¬b < a % b)]
    by_cases hab : a < b
    · rw [if_pos hab, Nat.mod_eq_of_lt hab, Nat.mul_comm b a]; omega
    · rw [if_neg hab]
      have h1 : 2 * (a % b) ≤ a := by
        have := Nat.div_add_mod a b
        have h2 : 1 ≤ a / b := (Nat.one_le_div_iff hb).mpr (by omega)
        have h3 : b * 1 ≤ b * (a / b) := Nat.mul_le_mul_left b h2
        omega
      have hp : b * (a % b) ≠ 0 := Nat.mul_ne_zero (by omega) h0
      have hq : a * b ≠ 0 := Nat.mul_ne_zero (by omega) (by omega)
      have h4 : (b * (a % b)) * 2 ≤ a * b := by
        rw [Nat.mul_assoc, Nat.mul_comm a b, Nat.mul_comm (a % b) 2]
        exact Nat.mul_le_mul_left b h1
      have h5 : 2 ^ ((b * (a % b)).log2 + 1) ≤ a * b := by
        rw [Nat.pow_succ]
        exact Nat.le_trans (Nat.mul_le_mul_right 2 (Nat.log2_self_le hp)) h4
      have h6 := (Nat.le_log2 hq).mpr h5
      omega
theorem lowest_eq (n d : Int) (hd : d ≠ 0) (hs : d.natAbs < 2 ^ 9000) (hn : n.natAbs < 2 ^ 100000) : F_lowest [.val (.int n), .val (.int d)] = some (.fz (fr (Rat.divInt n d)), []) := by
  refine eq_of_wO (wO_fn rfl ?_)
  unfold B_lowest
  simp only [↓wO_some, ↓wO_none, ↓wSl_0, ↓wSl_s, ↓wP_0, ↓wP_s, ↓kW_no, ↓kW_val, ↓kW_own, ↓kW_ov, ↓wO_setSlot, ↓wE_C, ↓kB_val, ↓kB_own, ↓kB_io, ↓wE_B, ↓kV_val, ↓kV_own, ↓wE_V, ↓kM_val, ↓kM_own, ↓wE_M, ↓kF_fz, ↓kF_bw, ↓kF_fr, ↓wE_F, ↓wR_fz, ↓kCt_val, ↓kCt_own, ↓kCt_io, ↓wR_bw, ↓wE_bin, ↓wE_un, ↓wA_nil, ↓kA_fz, ↓kA_bw, ↓kA_fr, ↓wA_cons, ↓wRs_nil, ↓wRs_cons, ↓wE_args, ↓wZ_nil, ↓wZ_cons, ↓kSz_0, ↓kSz_1, ↓kSz_2, ↓kSz_3, ↓kSz_4, ↓kSz_5, ↓kSz_6, ↓kSz_7, ↓kSz_8, ↓wE_tup, ↓wE_lst, ↓kT_bool, ↓wT_tst, ↓wT_and, ↓wT_or, ↓wT_not, ↓wT_yes, ↓wE_bool, ↓wE_if, ↓kAs_val, ↓kAs_own, ↓kAs_io, ↓wAs_nil, ↓wAs_fz, ↓wAs_bw, ↓kOut_nil, ↓kOut_nilr, ↓kPut_own, ↓kPut_io, ↓kOut_one, ↓kOut_oner, ↓wE_call, ↓w_add, ↓w_sub, ↓w_mul, ↓w_mulI, ↓w_fdiv, ↓w_mod, ↓w_neg, ↓w_lt, ↓w_le, ↓w_gt, ↓w_ge, ↓w_eq, ↓w_ne, ↓w_abs, ↓w_min2, ↓w_max2, ↓w_int, ↓w_intb, ↓w_pow, ↓w_lenL, ↓w_lenT, ↓w_ixL, ↓w_ixT, ↓w_tupL, ↓w_tupT, ↓w_listL, ↓w_listT, ↓kS_nx, ↓kS_bk, ↓kS_rt, ↓wS_nx, ↓wS_bk, ↓wS_seq, ↓kSt_fz, ↓kSt_fr, ↓wS_set, ↓kR_fz, ↓kR_fr, ↓wS_ret, ↓wS_retN, ↓wS_drop, ↓wS_if, ↓kAg_val, ↓wS_aug, ↓wG_N, ↓wG_T, ↓wGs_nil, ↓wGs_cons, ↓kIt_L, ↓kIt_T, ↓wI_seq, ↓kG1_i, ↓wI_rg1, ↓kG2_i, ↓wI_rg2, ↓wS_for, ↓wS_while, ↓kAz_fz, ↓wS_asg, ↓kL_nx, ↓kL_bk, ↓kL_rt, ↓wE_comp, ↓wU_nil, ↓wU_io, ↓wU_val, ↓kFn_fz, ↓kFn_fr, ↓kFn_nx, ↓wM_append, ↓wM_pop, ↓wM_rev, ↓wM_ins, ↓wM_popAt, ↓kMt_own, ↓kMt_io, ↓wE_mut, ↓wE_mut0, ↓kSi_i, ↓kSo_fz, ↓wS_store, ↓wE_meth, ↓w_addLL, ↓w_addTT, ↓w_mulLI, ↓w_mulTI, ↓w_inTI, ↓w_inLI, ↓w_inTN, ↓w_inLN, ↓w_sumTI, ↓w_sumLI, ↓w_sumTN, ↓w_sumLN, ↓w_cntTI, ↓w_cntTN, ↓w_cntLI, ↓w_cntLN, ↓kTR1_i, ↓kLR1_i, ↓wE_tupRg1, ↓wE_listRg1, ↓kTR2b_i, ↓kTR2_i, ↓kLR2b_i, ↓kLR2_i, ↓w_eqLN, ↓w_neLN, ↓w_eqTN, ↓w_neTN, ↓w_neb, ↓w_isB, ↓w_notB, ↓w_revL, ↓w_iadd, ↓kW_oz, ↓kPar_2, ↓wS_par, ↓kCh2_b, ↓kCh_fz, ↓wE_chain, ↓w_gcd, ↓kSS_fz, ↓wE_sortSet, ↓w_sortSetI, ↓w_sortSetN, ↓wX_no, ↓kOI_i, ↓wX_yes, ↓wE_sl, ↓w_slT, ↓w_slL, pl_1, pl_2, wipe_1, wipe_2, unw_1, unw_2, List.getD_cons_zero, List.getD_cons_succ, List.set_cons_zero, List.set_cons_succ, List.cons_append, List.nil_append, List.replicate_succ, List.replicate_zero, Nat.reduceSub, Nat.reduceAdd, Nat.reduceLT, plain_no, plain_val, plain_ov, Int.natCast_zero, Int.ofNat_zero, Int.cast_ofNat_Int, decide_eq_true_eq, decide_eq_false_iff_not, Bool.not_eq_true', Bool.not_eq_false', Bool.not_true, Bool.not_false, if_true, if_false, true_and, and_true, forall_const, decide_true, decide_false, Int.toNat_natCast, Int.reduceEq, Int.reduceNe, Int.reduceLT, Int.reduceLE, Int.zero_add, implies_true, true_implies, not_true_eq_false, not_false_eq_true, false_implies, false_and, and_false, reduceCtorEq, ite_true, ite_false, eq_self, List.length_cons, List.length_nil, oz_own, oz_val]
  refine wW_rec (fun m ρ => ∃ a b : Nat, Nat.gcd a b = Nat.gcd n.natAbs d.natAbs ∧ mu a b = m ∧ ρ = [.val (.int n), .val (.int d), .val (.int a), .val (.int b)]) ?_ _ (mu n.natAbs d.natAbs) _ ⟨n.natAbs, d.natAbs, rfl, rfl, rfl⟩ ?_
  · rintro m _ ⟨a, b, hg, hm, rfl⟩
    simp only [↓wO_some, ↓wO_none, ↓wSl_0, ↓wSl_s, ↓wP_0, ↓wP_s, ↓kW_no, ↓kW_val, ↓kW_own, ↓kW_ov, ↓wO_setSlot, ↓wE_C, ↓kB_val, ↓kB_own, ↓kB_io, ↓wE_B, ↓kV_val, ↓kV_own, ↓wE_V, ↓kM_val, ↓kM_own, ↓wE_M, ↓kF_fz, ↓kF_bw, ↓kF_fr, ↓wE_F, ↓wR_fz, ↓kCt_val, ↓kCt_own, ↓kCt_io, ↓wR_bw, ↓wE_bin, ↓wE_un, ↓wA_nil, ↓kA_fz, ↓kA_bw, ↓kA_fr, ↓wA_cons, ↓wRs_nil, ↓wRs_cons, ↓wE_args, ↓wZ_nil, ↓wZ_cons, ↓kSz_0, ↓kSz_1, ↓kSz_2, ↓kSz_3, ↓kSz_4, ↓kSz_5, ↓kSz_6, ↓kSz_7, ↓kSz_8, ↓wE_tup, ↓wE_lst, ↓kT_bool, ↓wT_tst, ↓wT_and, ↓wT_or, ↓wT_not, ↓wT_yes, ↓wE_bool, ↓wE_if, ↓kAs_val, ↓kAs_own, ↓kAs_io, ↓wAs_nil, ↓wAs_fz, ↓wAs_bw, ↓kOut_nil, ↓kOut_nilr, ↓kPut_own, ↓kPut_io, ↓kOut_one, ↓kOut_oner, ↓wE_call, ↓w_add, ↓w_sub, ↓w_mul, ↓w_mulI, ↓w_fdiv, ↓w_mod, ↓w_neg, ↓w_lt, ↓w_le, ↓w_gt, ↓w_ge, ↓w_eq, ↓w_ne, ↓w_abs, ↓w_min2, ↓w_max2, ↓w_int, ↓w_intb, ↓w_pow, ↓w_lenL, ↓w_lenT, ↓w_ixL, ↓w_ixT, ↓w_tupL, ↓w_tupT, ↓w_listL, ↓w_listT, ↓kS_nx, ↓kS_bk, ↓kS_rt, ↓wS_nx, ↓wS_bk, ↓wS_seq, ↓kSt_fz, ↓kSt_fr, ↓wS_set, ↓kR_fz, ↓kR_fr, ↓wS_ret, ↓wS_retN, ↓wS_drop, ↓wS_if, ↓kAg_val, ↓wS_aug, ↓wG_N, ↓wG_T, ↓wGs_nil, ↓wGs_cons, ↓kIt_L, ↓kIt_T, ↓wI_seq, ↓kG1_i, ↓wI_rg1, ↓kG2_i, ↓wI_rg2, ↓wS_for, ↓wS_while, ↓kAz_fz, ↓wS_asg, ↓kL_nx, ↓kL_bk, ↓kL_rt, ↓wE_comp, ↓wU_nil, ↓wU_io, ↓wU_val, ↓kFn_fz, ↓kFn_fr, ↓kFn_nx, ↓wM_append, ↓wM_pop, ↓wM_rev, ↓wM_ins, ↓wM_popAt, ↓kMt_own, ↓kMt_io, ↓wE_mut, ↓wE_mut0, ↓kSi_i, ↓kSo_fz, ↓wS_store, ↓wE_meth, ↓w_addLL, ↓w_addTT, ↓w_mulLI, ↓w_mulTI, ↓w_inTI, ↓w_inLI, ↓w_inTN, ↓w_inLN, ↓w_sumTI, ↓w_sumLI, ↓w_sumTN, ↓w_sumLN, ↓w_cntTI, ↓w_cntTN, ↓w_cntLI, ↓w_cntLN, ↓kTR1_i, ↓kLR1_i, ↓wE_tupRg1, ↓wE_listRg1, ↓kTR2b_i, ↓kTR2_i, ↓kLR2b_i, ↓kLR2_i, ↓w_eqLN, ↓w_neLN, ↓w_eqTN, ↓w_neTN, ↓w_neb, ↓w_isB, ↓w_notB, ↓w_revL, ↓w_iadd, ↓kW_oz, ↓kPar_2, ↓wS_par, ↓kCh2_b, ↓kCh_fz, ↓wE_chain, ↓w_gcd, ↓kSS_fz, ↓wE_sortSet, ↓w_sortSetI, ↓w_sortSetN, ↓wX_no, ↓kOI_i, ↓wX_yes, ↓wE_sl, ↓w_slT, ↓w_slL, pl_1, pl_2, wipe_1, wipe_2, unw_1, unw_2, List.getD_cons_zero, List.getD_cons_succ, List.set_cons_zero, List.set_cons_succ, List.cons_append, List.nil_append, List.replicate_succ, List.replicate_zero, Nat.reduceSub, Nat.reduceAdd, Nat.reduceLT, plain_no, plain_val, plain_ov, Int.natCast_zero, Int.ofNat_zero, Int.cast_ofNat_Int, decide_eq_true_eq, decide_eq_false_iff_not, Bool.not_eq_true', Bool.not_eq_false', Bool.not_true, Bool.not_false, if_true, if_false, true_and, and_true, forall_const, decide_true, decide_false, Int.toNat_natCast, Int.reduceEq, Int.reduceNe, Int.reduceLT, Int.reduceLE, Int.zero_add, implies_true, true_implies, not_true_eq_false, not_false_eq_true, false_implies, false_and, and_false, reduceCtorEq, ite_true, ite_false, eq_self, List.length_cons, List.length_nil, oz_own, oz_val, fmod_nat, ne_eq]
    refine ⟨fun hb => ?_, fun hb => ?_⟩
    · have hb0 : 0 < b := by omega
      refine ⟨by omega, mu b (a % b), by rw [← hm]; exact mu_lt hb0, b, a % b, ?_, rfl, rfl⟩
      rw [← hg, Nat.gcd_comm a b, Nat.gcd_rec b a, Nat.gcd_comm]
    · have hb0 : b = 0 := by omega
      subst hb0
      rw [Nat.gcd_zero_right] at hg
      obtain ⟨k1, k2⟩ := low_ok hd hs hg
      have e1 := low_num (n := n) hd hg
      have e2 := low_den (n := n) hd hg
      simp only [↓wO_some, ↓wO_none, ↓wSl_0, ↓wSl_s, ↓wP_0, ↓wP_s, ↓kW_no, ↓kW_val, ↓kW_own, ↓kW_ov, ↓wO_setSlot, ↓wE_C, ↓kB_val, ↓kB_own, ↓kB_io, ↓wE_B, ↓kV_val, ↓kV_own, ↓wE_V, ↓kM_val, ↓kM_own, ↓wE_M, ↓kF_fz, ↓kF_bw, ↓kF_fr, ↓wE_F, ↓wR_fz, ↓kCt_val, ↓kCt_own, ↓kCt_io, ↓wR_bw, ↓wE_bin, ↓wE_un, ↓wA_nil, ↓kA_fz, ↓kA_bw, ↓kA_fr, ↓wA_cons, ↓wRs_nil, ↓wRs_cons, ↓wE_args, ↓wZ_nil, ↓wZ_cons, ↓kSz_0, ↓kSz_1, ↓kSz_2, ↓kSz_3, ↓kSz_4, ↓kSz_5, ↓kSz_6, ↓kSz_7, ↓kSz_8, ↓wE_tup, ↓wE_lst, ↓kT_bool, ↓wT_tst, ↓wT_and, ↓wT_or, ↓wT_not, ↓wT_yes, ↓wE_bool, ↓wE_if, ↓kAs_val, ↓kAs_own, ↓kAs_io, ↓wAs_nil, ↓wAs_fz, ↓wAs_bw, ↓kOut_nil, ↓kOut_nilr, ↓kPut_own, ↓kPut_io, ↓kOut_one, ↓kOut_oner, ↓wE_call, ↓w_add, ↓w_sub, ↓w_mul, ↓w_mulI, ↓w_fdiv, ↓w_mod, ↓w_neg, ↓w_lt, ↓w_le, ↓w_gt, ↓w_ge, ↓w_eq, ↓w_ne, ↓w_abs, ↓w_min2, ↓w_max2, ↓w_int, ↓w_intb, ↓w_pow, ↓w_lenL, ↓w_lenT, ↓w_ixL, ↓w_ixT, ↓w_tupL, ↓w_tupT, ↓w_listL, ↓w_listT, ↓kS_nx, ↓kS_bk, ↓kS_rt, ↓wS_nx, ↓wS_bk, ↓wS_seq, ↓kSt_fz, ↓kSt_fr, ↓wS_set, ↓kR_fz, ↓kR_fr, ↓wS_ret, ↓wS_retN, ↓wS_drop, ↓wS_if, ↓kAg_val, ↓wS_aug, ↓wG_N, ↓wG_T, ↓wGs_nil, ↓wGs_cons, ↓kIt_L, ↓kIt_T, ↓wI_seq, ↓kG1_i, ↓wI_rg1, ↓kG2_i, ↓wI_rg2, ↓wS_for, ↓wS_while, ↓kAz_fz, ↓wS_asg, ↓kL_nx, ↓kL_bk, ↓kL_rt, ↓wE_comp, ↓wU_nil, ↓wU_io, ↓wU_val, ↓kFn_fz, ↓kFn_fr, ↓kFn_nx, ↓wM_append, ↓wM_pop, ↓wM_rev, ↓wM_ins, ↓wM_popAt, ↓kMt_own, ↓kMt_io, ↓wE_mut, ↓wE_mut0, ↓kSi_i, ↓kSo_fz, ↓wS_store, ↓wE_meth, ↓w_addLL, ↓w_addTT, ↓w_mulLI, ↓w_mulTI, ↓w_inTI, ↓w_inLI, ↓w_inTN, ↓w_inLN, ↓w_sumTI, ↓w_sumLI, ↓w_sumTN, ↓w_sumLN, ↓w_cntTI, ↓w_cntTN, ↓w_cntLI, ↓w_cntLN, ↓kTR1_i, ↓kLR1_i, ↓wE_tupRg1, ↓wE_listRg1, ↓kTR2b_i, ↓kTR2_i, ↓kLR2b_i, ↓kLR2_i, ↓w_eqLN, ↓w_neLN, ↓w_eqTN, ↓w_neTN, ↓w_neb, ↓w_isB, ↓w_notB, ↓w_revL, ↓w_iadd, ↓kW_oz, ↓kPar_2, ↓wS_par, ↓kCh2_b, ↓kCh_fz, ↓wE_chain, ↓w_gcd, ↓kSS_fz, ↓wE_sortSet, ↓w_sortSetI, ↓w_sortSetN, ↓wX_no, ↓kOI_i, ↓wX_yes, ↓wE_sl, ↓w_slT, ↓w_slL, pl_1, pl_2, wipe_1, wipe_2, unw_1, unw_2, List.getD_cons_zero, List.getD_cons_succ, List.set_cons_zero, List.set_cons_succ, List.cons_append, List.nil_append, List.replicate_succ, List.replicate_zero, Nat.reduceSub, Nat.reduceAdd, Nat.reduceLT, plain_no, plain_val, plain_ov, Int.natCast_zero, Int.ofNat_zero, Int.cast_ofNat_Int, decide_eq_true_eq, decide_eq_false_iff_not, Bool.not_eq_true', Bool.not_eq_false', Bool.not_true, Bool.not_false, if_true, if_false, true_and, and_true, forall_const, decide_true, decide_false, Int.toNat_natCast, Int.reduceEq, Int.reduceNe, Int.reduceLT, Int.reduceLE, Int.zero_add, implies_true, true_implies, not_true_eq_false, not_false_eq_true, false_implies, false_and, and_false, reduceCtorEq, ite_true, ite_false, eq_self, List.length_cons, List.length_nil, oz_own, oz_val, k1, k2]
      refine ⟨fun h => ?_, fun h => ?_⟩
      · rw [if_pos h] at e1 e2
        rw [e1, e2]; rfl
      · rw [if_neg h] at e1 e2
        rw [e1, e2]; rfl
  · have hl : (n.natAbs * d.natAbs).log2 ≤ 109000 := by
      rcases Nat.eq_zero_or_pos (n.natAbs * d.natAbs) with z | z
      · rw [z]; simp
      · refine Nat.le_of_lt ((Nat.log2_lt (by omega)).mpr ?_)
        have h1 := natAbs_mul_lt (a := n) (b := d) hn hs
        rw [Int.natAbs_mul] at h1
        exact h1
    unfold mu WFUEL
    split
    · omega
    · split <;> omega
end Ev



set_option Elab.async false
set_option linter.all false
/-! Ev17: small things that more laws need -/
namespace Ev
open PySem PySem.Spec L2
def oI : Option Int → D
  | none => .none
  | some i => .int i
theorem oI_some (i : Int) : oI (some i) = .int i := rfl
theorem oI_none : oI none = .none := rfl
theorem oI_pl (n : Nat) (o : Option Int) : Pl n (oI o) := by cases o <;> first | exact .none | exact .int _
theorem eqv_oI (a : Option Int) (b : Int) : PyData.eqv (oI a) (.int b) = decide (a = some b) := by
  cases a with
  | none => rfl
  | some i => show decide (i = b) = _; simp
theorem eqv_oo (a b : Option Int) : PyData.eqv (oI a) (oI b) = decide (a = b) := by
  cases b with
  | none => cases a <;> rfl
  | some b => exact eqv_oI a b
theorem w_eqOI (a : Option Int) (b : Int) (Q : RV → Prop) : wO (eqD (oI a) (.int b)) Q = Q (.fz (.bool (decide (a = some b)))) := by
  show wO (if _ then _ else _) Q = _
  rw [wO_if, (oI_pl 0 a).shaped (by decide), (Pl.int (n := 0) b).shaped (by decide), rB, wO_some, eqv_oI]
  exact propext ⟨fun h => h.2, fun h => ⟨rfl, h⟩⟩
theorem w_neOI (a : Option Int) (b : Int) (Q : RV → Prop) : wO (neD (oI a) (.int b)) Q = Q (.fz (.bool (!decide (a = some b)))) := by
  show wO (if _ then _ else _) Q = _
  rw [wO_if, (oI_pl 0 a).shaped (by decide), (Pl.int (n := 0) b).shaped (by decide), rB, wO_some, eqv_oI]
  exact propext ⟨fun h => h.2, fun h => ⟨rfl, h⟩⟩
theorem w_eqOO (a b : Option Int) (Q : RV → Prop) : wO (eqD (oI a) (oI b)) Q = Q (.fz (.bool (decide (a = b)))) := by
  show wO (if _ then _ else _) Q = _
  rw [wO_if, (oI_pl 0 a).shaped (by decide), (oI_pl 0 b).shaped (by decide), rB, wO_some, eqv_oo]
  exact propext ⟨fun h => h.2, fun h => ⟨rfl, h⟩⟩
theorem w_isOI (o : Option Int) (Q : RV → Prop) : wO (isN (oI o) .none) Q = Q (.fz (.bool (decide (o = none)))) := by
  cases o <;> exact wO_some ..
theorem w_notOI (o : Option Int) (Q : RV → Prop) : wO (notN (oI o) .none) Q = Q (.fz (.bool (decide (o ≠ none)))) := by
  cases o <;> exact wO_some ..
theorem getD_lt {α : Type} {l : List α} {c : Nat} (h : c < l.length) (z : α) : l.getD c z = l[c] := by
  rw [List.getD_eq_getElem?_getD, List.getElem?_eq_getElem h]; rfl
/-- some item of a written list -/
theorem at_all {ds : List D} {r : Int} {Q : D → Prop} (h0 : 0 ≤ r) (h1 : r < ds.length) (h : ∀ (i : Nat) (d : D), ds[i]? = some d → r = i → Q d) : wO (atD ds r) Q := by
  obtain ⟨i, rfl⟩ : ∃ i : Nat, r = i := ⟨r.toNat, by omega⟩
  have hi : i < ds.length := by omega
  exact wO_of (atD_nat (List.getElem?_eq_getElem hi)) (h i _ (List.getElem?_eq_getElem hi) rfl)
theorem at_map {α : Type} {e : α → D} {l : List α} {r : Int} {Q : D → Prop} (h0 : 0 ≤ r) (h1 : r < l.length) (h : ∀ x, x ∈ l → Q (e x)) : wO (atD (l.map e) r) Q := by
  obtain ⟨i, rfl⟩ : ∃ i : Nat, r = i := ⟨r.toNat, by omega⟩
  have hi : i < l.length := by omega
  exact wO_of (atD_mapN hi) (h _ (List.getElem_mem hi))
theorem ats0 (a : D) (l : List D) : atD (a :: l) 0 = some a := atD_nat (i := 0) rfl
theorem ats1 (a b : D) (l : List D) : atD (a :: b :: l) 1 = some b := atD_nat (i := 1) rfl
theorem ats2 (a b c : D) (l : List D) : atD (a :: b :: c :: l) 2 = some c := atD_nat (i := 2) rfl
theorem ats3 (a b c d : D) (l : List D) : atD (a :: b :: c :: d :: l) 3 = some d := atD_nat (i := 3) rfl
abbrev bxN (l : List Nat) : D := .tuple (l.map nI)
abbrev bxI (l : List Int) : D := .tuple (l.map .int)
abbrev bxO (l : List (Option Int)) : D := .tuple (l.map oI)
theorem bxN_pl {n : Nat} (l : List Nat) (hl : l.length ≤ 16777216) : Pl (n + 1) (bxN l) := .tuple (by rw [List.length_map]; exact hl) (plN l)
theorem bxI_pl {n : Nat} (l : List Int) (hl : l.length ≤ 16777216) : Pl (n + 1) (bxI l) := .tuple (by rw [List.length_map]; exact hl) (plI l)
theorem bxO_pl {n : Nat} (l : List (Option Int)) (hl : l.length ≤ 16777216) : Pl (n + 1) (bxO l) := .tuple (by rw [List.length_map]; exact hl) fun d hd => by
  obtain ⟨o, _, rfl⟩ := List.mem_map.mp hd
  exact oI_pl _ o
theorem filter_le {α : Type} {l : List α} {p : α → Bool} {k : Nat} (h : l.length ≤ k) : (l.filter p).length ≤ k := Nat.le_trans (List.length_filter_le ..) h
theorem szM {α : Type} {l : List α} {f : α → D} (h : l.length ≤ 16777216) : szB (l.map f).length := szB_of (by rw [List.length_map]; exact h)
theorem fr_int (z : Int) : fr (z : Rat) = .tuple [.int z, .int 1] := by
  unfold fr
  rw [Rat.num_intCast, Rat.den_intCast]; rfl
theorem int_divInt (z d : Int) (hd : d ≠ 0) : Rat.divInt (z * d) d = (z : Rat) := by
  rw [Rat.divInt_eq_div, Rat.intCast_mul, Rat.mul_div_cancel]
  intro h
  exact hd (Rat.intCast_eq_zero_iff.mp h)
theorem same_sm (d : D) (p : Pl 7 d) : F_sameB [.val d, .val d] = some (.fz (.bool true), []) := sameB_refl 7 d p
end Ev


set_option Elab.async false
set_option linter.all false
set_option maxRecDepth 100000
/-! Ev18: sorted(xs) of alike data; tuples turned about; item op=; list +=; range with a step -/
namespace Ev
open PySem PySem.Spec L2
open PyProof.Rows hiding St
/-! ### insertion sort is the merge sort -/
section
variable {α : Type} (le : α → α → Bool)
def insG (x : α) : List α → List α
  | [] => [x]
  | y :: r => if le x y = true then x :: y :: r else y :: insG x r
def gsort (l : List α) : List α := l.foldr (insG le) []
variable {le}
theorem insG_mem {x z : α} : ∀ {l : List α}, z ∈ insG le x l ↔ z = x ∨ z ∈ l
  | [] => by simp [insG]
  | y :: r => by
    unfold insG
    split
    · simp
    · rw [List.mem_cons, insG_mem, List.mem_cons]
      constructor
      · rintro (h | h | h) <;> simp [h]
      · rintro (h | h | h) <;> simp [h]
theorem insG_pw (T : W.TotalLe le) {x : α} : ∀ {l : List α}, l.Pairwise (fun a b => le a b = true) → (insG le x l).Pairwise (fun a b => le a b = true)
  | [], _ => by simp [insG]
  | y :: r, h => by
    obtain ⟨h1, h2⟩ := List.pairwise_cons.mp h
    unfold insG
    split
    · rename_i hx
      refine List.pairwise_cons.mpr ⟨fun z hz => ?_, h⟩
      rcases List.mem_cons.mp hz with rfl | hz
      · exact hx
      · exact T.trans _ _ _ hx (h1 z hz)
    · rename_i hx
      refine List.pairwise_cons.mpr ⟨fun z hz => ?_, insG_pw T h2⟩
      rcases insG_mem.mp hz with rfl | hz
      · exact (T.total _ _).resolve_left hx
      · exact h1 z hz
theorem gsort_pw (T : W.TotalLe le) : ∀ l : List α, (gsort le l).Pairwise (fun a b => le a b = true)
  | [] => List.Pairwise.nil
  | y :: r => insG_pw T (gsort_pw T r)
theorem insG_filter (T : W.TotalLe le) (c x : α) : ∀ l : List α, (insG le x l).filter (W.sameRank le c) = (x :: l).filter (W.sameRank le c)
  | [] => rfl
  | y :: r => by
    unfold insG
    split
    · rfl
    · rename_i hx
      have hyx := (T.total x y).resolve_left hx
      rw [List.filter_cons, insG_filter T c x r, List.filter_cons, List.filter_cons, List.filter_cons]
      by_cases hcx : W.sameRank le c x = true
      · have hcy : ¬ W.sameRank le c y = true := fun h => by
          unfold W.sameRank at h hcx
          rw [Bool.and_eq_true] at h hcx
          exact hx (T.trans _ _ _ hcx.2 h.1)
        rw [if_pos hcx, if_neg hcy, if_neg hcy, if_pos hcx]
      · rw [if_neg hcx]
        split <;> simp [hcx]
theorem gsort_filter (T : W.TotalLe le) (c : α) : ∀ l : List α, (gsort le l).filter (W.sameRank le c) = l.filter (W.sameRank le c)
  | [] => rfl
  | y :: r => by
    show (insG le y (gsort le r)).filter _ = _
    rw [insG_filter T, List.filter_cons, gsort_filter T c r, List.filter_cons]
theorem gsort_eq (T : W.TotalLe le) (l : List α) : gsort le l = l.mergeSort le := W.sort_unique T (gsort_pw T l) fun c => gsort_filter T c l
theorem insG_len (x : α) : ∀ l : List α, (insG le x l).length = l.length + 1
  | [] => rfl
  | y :: r => by
    unfold insG
    split
    · rfl
    · rw [List.length_cons, insG_len x r]; rfl
theorem gsort_len : ∀ l : List α, (gsort le l).length = l.length
  | [] => rfl
  | y :: r => by
    show (insG le y (gsort le r)).length = _
    rw [insG_len, gsort_len r]; rfl
theorem insG_perm (x : α) : ∀ l : List α, (insG le x l).Perm (x :: l)
  | [] => List.Perm.refl _
  | y :: r => by
    unfold insG
    split
    · exact List.Perm.refl _
    · exact ((insG_perm x r).cons y).trans (List.Perm.swap x y r)
theorem gsort_perm : ∀ l : List α, (gsort le l).Perm l
  | [] => List.Perm.refl _
  | y :: r => (insG_perm y _).trans ((gsort_perm r).cons y)
theorem insG_map {β : Type} {le' : β → β → Bool} (e : β → α) (x : β) : ∀ l : List β, (∀ y, y ∈ l → le (e x) (e y) = le' x y) → insG le (e x) (l.map e) = (insG le' x l).map e
  | [], _ => rfl
  | y :: r, h => by
    rw [List.map_cons]
    unfold insG
    rw [h y (List.mem_cons_self ..)]
    split
    · rfl
    · rw [insG_map e x r fun z hz => h z (List.mem_cons_of_mem _ hz)]; rfl
theorem gsort_map {β : Type} {le' : β → β → Bool} (e : β → α) : ∀ l : List β, (∀ x, x ∈ l → ∀ y, y ∈ l → le (e x) (e y) = le' x y) → gsort le (l.map e) = (gsort le' l).map e
  | [], _ => rfl
  | x :: r, h => by
    show insG le (e x) (gsort le (r.map e)) = (insG le' x (gsort le' r)).map e
    rw [gsort_map e r fun a ha b hb => h a (List.mem_cons_of_mem _ ha) b (List.mem_cons_of_mem _ hb)]
    exact insG_map e x _ fun y hy => h x (List.mem_cons_self ..) y (List.mem_cons_of_mem _ ((gsort_perm r).mem_iff.mp hy))
end
/-! ### sorted(t), t a tuple -/
section
variable {prog : Program} {w : World} {A : Around} {E : Value → Shared → Prop} {s : Shared} {κ : PyProof.Rows.KeyKind} {β : Type} {vs : List Value} {bs : List β} {enc : β → PyData} {R : Value → β → Prop}
def colH (h : Heap) (vs : List Value) : Heap := (h.push (seqObj "list" #[] 0)).update h.objs.size (Obj.mapSeq (· ++ vs.toArray))
theorem collect_tupA {l : Addr} {Q : List Value → Shared → Prop} (hl : s.heap.IsTuple l vs.toArray) (h : Q vs { s with heap := colH s.heap vs }) (hsz : vs.length ≤ sizeLine) : wpAny (model prog w) A (collect (.ref l)) Q E s := by
  obtain ⟨o, ho, hc, n, hd⟩ := id hl
  unfold collect
  refine wpAny_bind (wpAny_runValue (codeAny_builtin entry_proto_collect' ?_))
  show wpAny _ _ (do again (.builtin "list.__iadd__" ⟨[← newList [], .ref l], []⟩)) _ _ s
  refine wpAny_bind (wpAny_newList (wpAny_pure ⟨Code.quiet_builtin _ (by decide +kernel), codeAny_builtin entry_list_iadd' ?_⟩))
  show wpAny _ _ (Builtin.List.listExtendWith (.ref s.heap.objs.size) (.ref l) (.ref s.heap.objs.size)) _ _ { s with heap := s.heap.push (seqObj "list" #[] 0) }
  unfold Builtin.List.listExtendWith
  have ho' : (s.heap.push (seqObj "list" #[] 0)).get? l = some o := Heap.get?_push_of_some _ ho
  refine wpAny_bind (wpAny_typeOf (T := "tuple") ⟨o, ho', hc⟩ ?_)
  have h1 : (Value.type "tuple" == Value.type "tuple") = true := by rfl
  rw [if_pos (by rw [h1]; simp)]
  refine wpAny_bind (listItems_at ho' hd (wpAny_bind (listItems_at (xs := #[]) (n := 0) (Heap.get?_push_size _ rfl) rfl ?_)))
  rw [if_neg (by simp)]
  refine wpAny_bind (listUpdate_at (xs := #[]) (n := 0) (Heap.get?_push_size _ rfl) rfl ?_ (Nat.zero_le _) (by show (#[] ++ vs.toArray).size ≤ sizeLine + 1; simp only [Array.size_append, List.size_toArray, List.length_nil]; omega))
  refine wpAny_pure ?_
  show wpAny (model prog w) A (do
      let o ← load s.heap.objs.size
      match o.data with
      | .seq xs _ => pure xs.toList
      | _ => unsupported "internal:collect") Q E { s with heap := colH s.heap vs }
  refine wpAny_bind (wpAny_load (get?_update_seq (Heap.get?_push_size _ rfl) _) ?_)
  show wpAny _ _ (pure ((#[] : Array Value) ++ vs.toArray).toList) Q E _
  rw [show ((#[] : Array Value) ++ vs.toArray).toList = vs by simp]
  exact wpAny_pure h
theorem sorted_tupA {l : Addr} {Q : Value → Shared → Prop} (hl : s.heap.IsTuple l vs.toArray) (S : W.SortsAt prog w A.in1.in1 { s with heap := W.sortingHeap (W.copyHeap s.heap vs) (s.heap.objs.size + 1) vs } κ vs) (hL : vs.length ≤ sizeLine)
    (h : Q (.ref (s.heap.objs.size + 1)) { s with heap := sortedAll s.heap vs (W.sortVals κ false vs vs).toArray }) : wpAny (model prog w) A (call (.builtin "sorted") [.ref l]) Q E s := by
  refine call_function_entry_kw kind_sorted plain_sorted entry_sorted (args_sorted1 _) ?_
  unfold Builtin.«sorted»
  have hsz : (colH s.heap vs).objs.size = s.heap.objs.size + 1 := by
    unfold colH
    rw [Heap.size_update, size_push']
  refine wpAny_bind (m := checkCount "sorted" 1 1 _) (wpAny_pure (wpAny_bind (collect_tupA hl (wpAny_bind (wpAny_newList ?_ hL)) hL)))
  show wpAny _ _ _ _ _ { s with heap := W.copyHeap s.heap vs }
  show wpAny (model prog w) A.in1 (holding [.ref (colH s.heap vs).objs.size] _ >>= _) _ _ _
  rw [hsz]
  refine wpAny_bind (wpAny_holding (wpAny_call_entry_kw PyProof.Rows.slot_list_sort ⟨_, W.copyHeap_at s.heap vs, rfl⟩ entry_list_sort ?body (args_list_sort _)))
  case body =>
    refine wpAny_mono (W.list_sort_vals (P := fun f s' => f = .done (.ret .none) ∧ Q (.ref (s.heap.objs.size + 1)) s') (s := { s with heap := W.copyHeap s.heap vs }) (W.copyHeap_at s.heap vs) S hL ⟨rfl, h⟩) (fun f s' hf => ?_) fun _ _ e => e
    obtain ⟨rfl, hq⟩ := hf
    exact ⟨_, rfl, wpAny_pure ⟨_, rfl, hq⟩⟩
theorem sorted_dataT {l : Addr} {Q : Value → Shared → Prop} (hl : s.heap.IsTuple l vs.toArray) (e : W.EachIs R vs bs) (er : W.EachIs (fun v b => ∃ as, Reads s.heap v (enc b) as) vs bs) (hal : W.AllAlike (bs.map enc)) (hk : W.Sortable (bs.map enc)) (hL : bs.length ≤ sizeLine)
    (hu : ∀ b, b ∈ bs → A.units + 2 + (enc b).depth < cLine) (h : ∀ out, out.length = bs.length → W.EachIs R out (bs.mergeSort (W.dataLe false enc)) → Q (.ref (s.heap.objs.size + 1)) { s with heap := sortedAll s.heap vs (List.toArray out) }) :
    wpAny (model prog w) A (call (.builtin "sorted") [.ref l]) Q E s := by
  have er' : W.EachIs (fun v b => ∃ as, Reads (W.sortingHeap (W.copyHeap s.heap vs) (s.heap.objs.size + 1) vs) v (enc b) as) vs bs := er.mono fun _ _ ⟨as, r⟩ => ⟨as, PyProof.Rows.Reads.keeps (fun _ _ => W.sorting_copy_old) r⟩
  refine sorted_tupA hl (W.SortsAt.data (s := { s with heap := W.sortingHeap (W.copyHeap s.heap vs) (s.heap.objs.size + 1) vs }) (W.each_map (R := fun v d => ∃ as, Reads (W.sortingHeap (W.copyHeap s.heap vs) (s.heap.objs.size + 1) vs) v d as) enc er') hal hk (W.bound_map hu)) (by rw [e.length]; exact hL) ?_
  exact h _ (by rw [W.sortVals_length false rfl]; exact e.length) (W.sortVals_data false e er' hal)
end
/-! ### sorted -/
def dle (x y : D) : Bool := W.dataLe false (fun d : D => d) x y
def sortable : List D → Bool := fun ds => (ds.all fun d => match d with | .tuple (_ :: _) => true | _ => false) || ds.all fun d => match d with | .none => false | .tuple _ => false | _ => true
def okSort (ds : List D) : Bool := (ds.all fun d => ds.all fun e => W.alike d e) && sortable ds && (ds.all fun d => decide (d.depth ≤ 60)) && decide (ds.length ≤ sizeLine)
def sortedD : List D → Option RV
  | [.list ds] => if okSort ds = true then some (.fr (.list (gsort dle ds))) else none
  | [.tuple ds] => if okSort ds = true then some (.fr (.list (gsort dle ds))) else none
  | _ => none
theorem dle_total : W.TotalLe dle := W.sortLe_total (PyProof.Rows.listOrd PyProof.Rows.itemOrd) false fun d : D => W.keyToks d
section
variable {X : Cx}
theorem each_of_vals {R : Value → D → Prop} {K : PySem.W.Frag} {Z : Hp} (h : ∀ (d : D) (y : V) (v : Value), Dp K Z y d → RelV y v → R v d) : ∀ {us : List V} {its : List Value} {ds : List D}, Vals us its → DpAll K Z us ds → W.EachIs R its ds
  | [], _, _, hv, hd => by cases hv; cases hd; exact .nil
  | u :: us, _, _, hv, hd => by
    cases hv with
    | cons a b =>
      cases hd with
      | cons c d => exact .cons (h _ _ _ c a) (each_of_vals h b d)
theorem vals_of_each {K : PySem.W.Frag} {Z : Hp} : ∀ {out : List Value} {ds : List D}, W.EachIs (fun v d => ∃ y : V, RelV y v ∧ Dp K Z y d) out ds → ∃ ys : List V, Vals ys out ∧ DpAll K Z ys ds
  | _, _, .nil => ⟨[], .nil, .nil⟩
  | _, _, .cons ⟨y, a, b⟩ t => by
    obtain ⟨ys, h1, h2⟩ := vals_of_each t
    exact ⟨y :: ys, .cons a h1, .cons b h2⟩
theorem c_sorted (hu : X.A.units + 65 < cLine) : CallR X (.builtin "sorted") (rOpN X.K sortedD) := fun pins s σ H xs us Q I rr ⟨Z, ds, r, zh, zl, hs, er, q⟩ => by
  unfold sortedD at er
  split at er
  · rename_i ds
    obtain ⟨x, rfl, hx⟩ := sh1 hs
    split at er
    · rename_i hok
      cases er
      unfold okSort at hok
      rw [Bool.and_eq_true, Bool.and_eq_true, Bool.and_eq_true, decide_eq_true_eq] at hok
      obtain ⟨⟨⟨hal, hsk⟩, hdp⟩, hlen⟩ := hok
      obtain ⟨a, us', rfl, ha, hda⟩ := hx.list zh
      obtain ⟨its, rv, hl, hz⟩ := I.list ha
      rw [Vals.ref1 rr]
      have e1 : W.EachIs (fun (v : Value) (d : D) => ∃ y : V, RelV y v ∧ Dp X.K Z y d) its ds := each_of_vals (fun d y v h1 h2 => ⟨y, h2, h1⟩) rv hda
      have e2 : W.EachIs (fun v d => ∃ as, Reads s.heap v ((fun d : D => d) d) as) its ds := each_of_vals (fun d y v h1 h2 => L2.Dp.reads I d y v (Dp.mono zh h1).l2 h2) rv hda
      have hal' : W.AllAlike (ds.map fun d : D => d) := by
        rw [List.map_id']
        intro d hd d' hd'
        exact List.all_eq_true.mp (List.all_eq_true.mp hal d hd) d' hd'
      have hsk' : W.Sortable (ds.map fun d : D => d) := by
        rw [List.map_id']
        unfold sortable at hsk
        rcases Bool.or_eq_true_iff.mp hsk with h | h
        · refine .inl fun d hd => ?_
          have := List.all_eq_true.mp h d hd
          split at this
          · exact ⟨_, _, rfl⟩
          · cases this
        · refine .inr fun d hd => ?_
          have := List.all_eq_true.mp h d hd
          cases d with
          | none => cases this
          | tuple xs => cases this
          | bool b => exact ⟨nofun, nofun⟩
          | int b => exact ⟨nofun, nofun⟩
          | str b => exact ⟨nofun, nofun⟩
          | list b => exact ⟨nofun, nofun⟩
          | dict b => exact ⟨nofun, nofun⟩
      refine W.sorted_data (enc := fun d : D => d) hl.isList e1 e2 hal' hsk' hlen (fun b hb => ?_) fun out ho eo => ?_
      · have := of_decide_eq_true (List.all_eq_true.mp hdp b hb)
        show _ + 2 + b.depth < cLine
        omega
      · obtain ⟨ys, vy, dy⟩ := vals_of_each eo
        obtain ⟨ep, he'⟩ := PyProof.Rows.sortedAll_at s.heap its out.toArray
        have hys : ys.length ≤ sizeLine := by rw [vy.length, ho]; exact hlen
        have hg : ds.mergeSort (W.dataLe false fun d : D => d) = gsort dle ds := (gsort_eq dle_total ds).symm
        rw [hg] at dy
        exact ⟨.ref _, upd H (s.heap.objs.size + 1) (.lst ys), I.laid (t' := s.toks) (fun _ _ => PyProof.Rows.sortedAll_old) (Nat.le_succ _) ⟨hys, out, ep, vy, he'⟩, rfl,
          q _ _ Z (.newLst zh zl (I.hok.fresh (Nat.le_succ _)) hys dy)⟩
    · cases er
  · rename_i ds
    obtain ⟨x, rfl, hx⟩ := sh1 hs
    split at er
    · rename_i hok
      cases er
      unfold okSort at hok
      rw [Bool.and_eq_true, Bool.and_eq_true, Bool.and_eq_true, decide_eq_true_eq] at hok
      obtain ⟨⟨⟨hal, hsk⟩, hdp⟩, hlen⟩ := hok
      obtain ⟨a, us', rfl, ha, hda⟩ := hx.tuple zh
      obtain ⟨its, rv, hl, hz⟩ := I.tuple ha
      rw [Vals.ref1 rr]
      have e1 : W.EachIs (fun (v : Value) (d : D) => ∃ y : V, RelV y v ∧ Dp X.K Z y d) its ds := each_of_vals (fun d y v h1 h2 => ⟨y, h2, h1⟩) rv hda
      have e2 : W.EachIs (fun v d => ∃ as, Reads s.heap v ((fun d : D => d) d) as) its ds := each_of_vals (fun d y v h1 h2 => L2.Dp.reads I d y v (Dp.mono zh h1).l2 h2) rv hda
      have hal' : W.AllAlike (ds.map fun d : D => d) := by
        rw [List.map_id']
        intro d hd d' hd'
        exact List.all_eq_true.mp (List.all_eq_true.mp hal d hd) d' hd'
      have hsk' : W.Sortable (ds.map fun d : D => d) := by
        rw [List.map_id']
        unfold sortable at hsk
        rcases Bool.or_eq_true_iff.mp hsk with h | h
        · refine .inl fun d hd => ?_
          have := List.all_eq_true.mp h d hd
          split at this
          · exact ⟨_, _, rfl⟩
          · cases this
        · refine .inr fun d hd => ?_
          have := List.all_eq_true.mp h d hd
          cases d with
          | none => cases this
          | tuple xs => cases this
          | bool b => exact ⟨nofun, nofun⟩
          | int b => exact ⟨nofun, nofun⟩
          | str b => exact ⟨nofun, nofun⟩
          | list b => exact ⟨nofun, nofun⟩
          | dict b => exact ⟨nofun, nofun⟩
      refine sorted_dataT (enc := fun d : D => d) (show s.heap.IsTuple _ its.toArray from hl) e1 e2 hal' hsk' hlen (fun b hb => ?_) fun out ho eo => ?_
      · have := of_decide_eq_true (List.all_eq_true.mp hdp b hb)
        show _ + 2 + b.depth < cLine
        omega
      · obtain ⟨ys, vy, dy⟩ := vals_of_each eo
        obtain ⟨ep, he'⟩ := PyProof.Rows.sortedAll_at s.heap its out.toArray
        have hys : ys.length ≤ sizeLine := by rw [vy.length, ho]; exact hlen
        have hg : ds.mergeSort (W.dataLe false fun d : D => d) = gsort dle ds := (gsort_eq dle_total ds).symm
        rw [hg] at dy
        exact ⟨.ref _, upd H (s.heap.objs.size + 1) (.lst ys), I.laid (t' := s.toks) (fun _ _ => PyProof.Rows.sortedAll_old) (Nat.le_succ _) ⟨hys, out, ep, vy, he'⟩, rfl,
          q _ _ Z (.newLst zh zl (I.hok.fresh (Nat.le_succ _)) hys dy)⟩
    · cases er
  · cases er
end
/-! ### tuples turned about -/
def revTD : D → Option RV
  | .list ds => if ds.length ≤ sizeLine then some (.fr (.list ds.reverse)) else none
  | .tuple ds => if ds.length ≤ sizeLine then some (.fz (.tuple ds.reverse)) else none
  | _ => none
section
variable {prog : Program} {w : World} {A : Around} {E : Value → Shared → Prop} {s : Shared}
theorem back_bounds (n : Nat) : Builtin.Slice.sliceAdjust none none (-1) (n : Int) = ((n : Int) - 1, -1) := by
  unfold Builtin.Slice.sliceAdjust
  rfl
theorem back_places (n : Nat) : Builtin.Slice.slicePlaces ((n : Int) - 1) (-1) (-1) = n := by
  unfold Builtin.Slice.slicePlaces
  have h1 : ¬ ((-1 : Int) > 0) := by decide
  rw [if_neg h1]
  by_cases h : (n : Int) - 1 > -1
  · rw [if_pos h, show (- -1 : Int) = 1 by decide, Int.ediv_one]; omega
  · rw [if_neg h]; omega
theorem applied_back {sl : Addr} {vs : Value} {n : Nat} {Q : Int × Int × Nat → Shared → Prop} (hs : s.heap.IsSliceOf sl .none .none vs) (ps : IsPart vs (some (-1))) (h : Q ((n : Int) - 1, -1, n) s) :
    wpAny (model prog w) A (Builtin.Slice.sliceApplied (.ref sl) (pure (n : Int))) Q E s := by
  obtain ⟨o1, h1, h2, h3⟩ := hs
  unfold Builtin.Slice.sliceApplied Builtin.Slice.sliceFields
  refine wpAny_bind (wpAny_bind (wpAny_field h1 h3 (x := .none) rfl (wpAny_bind (wpAny_field h1 h3 (x := .none) rfl (wpAny_bind (wpAny_field h1 h3 (x := vs) rfl (wpAny_pure ?_)))))))
  refine wpAny_bind (HT.slicePart_ ps ?_)
  show wpAny _ _ (if ((-1 : Int) == 0) = true then _ else _) _ _ s
  rw [if_neg (by decide)]
  refine wpAny_bind (HT.slicePart_ .none (wpAny_bind (HT.slicePart_ .none (wpAny_bind (wpAny_pure ?_)))))
  show wpAny _ _ (match Builtin.Slice.sliceAdjust none none (-1) (n : Int) with | (lo, hi) => pure (lo, (-1 : Int), Builtin.Slice.slicePlaces lo hi (-1))) _ _ s
  rw [back_bounds n]
  show wpAny _ _ (pure ((n : Int) - 1, (-1 : Int), Builtin.Slice.slicePlaces ((n : Int) - 1) (-1) (-1))) _ _ s
  rw [back_places]
  exact wpAny_pure h
theorem back_pick (xs : Array Value) : ((List.range xs.size).filterMap fun (m : Nat) => xs[(((xs.size : Nat) : Int) - 1 + (m : Int) * -1).toNat]?).toArray = xs.toList.reverse.toArray := by
  have e : (List.range xs.size).filterMap (fun (m : Nat) => xs[(((xs.size : Nat) : Int) - 1 + (m : Int) * -1).toNat]?) = ((List.range xs.size).map fun k => xs.size - 1 - k).filterMap (xs[·]?) := by
    rw [List.filterMap_map]
    congr 1
    funext m
    show _ = xs[xs.size - 1 - m]?
    rw [show ((((xs.size : Nat) : Int) - 1 + (m : Int) * -1).toNat) = xs.size - 1 - m by omega]
  rw [e, W.krv_range, List.filterMap_reverse, W.krv_all]
theorem item_back {t sl : Addr} {items : Array Value} {vs : Value} {Q : Value → Shared → Prop} (ht : IsTup s.heap t items) (hs : s.heap.IsSliceOf sl .none .none vs) (ps : IsPart vs (some (-1)))
    (h : Q (.ref s.heap.objs.size) { s with heap := s.heap.push { cls := .type "tuple", data := .seq items.toList.reverse.toArray } }) (hsz : items.size ≤ sizeLine) : wpAny (model prog w) A (getItem (.ref t) (.ref sl)) Q E s := by
  obtain ⟨o1, h1, h2, h3⟩ := id hs
  have hT : s.TypeIs (.ref sl) "slice" := ⟨o1, h1, h2⟩
  have hz : sizeOk (.seq items.toList.reverse.toArray) := by
    show items.toList.reverse.toArray.size ≤ sizeLine
    rw [List.size_toArray, List.length_reverse, Array.length_toList]; exact hsz
  unfold getItem
  try with_reducible refine wpAny_holding ?_
  first | refine wpAny_bind (wpAny_pure ?_) | skip
  refine wpAny_bind (wpAny_sequenceKey ht.typeIs (by decide) (wpAny_bind (wpAny_callSpecial?_slot (name := Str.ofString "__getitem__") ht.typeIs PyProof.Rows.slot_tuple_getitem (wpAny_call_entry PyProof.Rows.slot_tuple_getitem ht.typeIs PyProof.Rows.entry_tuple_getitem ?_ (PyProof.Rows.args_tuple_getitem _ _)))))
  show wpAny _ _ (Builtin.Tuple.tupleItemsOf (.ref t) >>= _) _ _ s
  refine wpAny_bind (tupleItemsOf_ ht (wpAny_bind (wpAny_typeOf hT ?_)))
  rw [if_pos (by decide)]
  refine wpAny_bind (applied_back hs ps ?_)
  have hno : ¬ ((((items.size : Nat) : Int) - 1 == 0 && (-1 : Int) == 1 && items.size == items.size) = true) := by
    rw [show ((-1 : Int) == 1) = false from rfl, Bool.and_false, Bool.false_and]; exact Bool.false_ne_true
  show wpAny _ _ (if (((items.size : Nat) : Int) - 1 == 0 && (-1 : Int) == 1 && items.size == items.size) = true then _ else _) _ _ s
  rw [if_neg hno, back_pick]
  first
    | exact wpAny_bind (m := Builtin.Tuple.tupleExact _) (wpAny_newObj_type (wpAny_pure ⟨_, rfl, wpAny_pure h⟩) hz)
    | exact wpAny_bind (m := Builtin.Tuple.tupleExact _) (wpAny_newObj_type (wpAny_bind (wpAny_pure (wpAny_pure ⟨_, rfl, wpAny_pure h⟩))) hz)
    | exact wpAny_bind (wpAny_bind (m := Builtin.Tuple.tupleExact _) (wpAny_newObj_type (wpAny_pure (wpAny_pure ⟨_, rfl, wpAny_pure h⟩)) hz))
    | exact wpAny_bind (wpAny_bind (m := Builtin.Tuple.tupleExact _) (wpAny_newObj_type (wpAny_pure ⟨_, rfl, wpAny_pure h⟩) hz))
end
theorem DpAll.rev2 {K : PySem.W.Frag} {Z : Hp} : ∀ {vs : List V} {ds : List D}, DpAll K Z vs ds → DpAll K Z vs.reverse ds.reverse
  | [], [], _ => .nil
  | v :: vs, d :: ds, h => by
    cases h with
    | cons h1 h2 => rw [List.reverse_cons, List.reverse_cons]; exact (DpAll.rev2 h2).append (.cons h1 .nil)
def tRevLT (K : PySem.W.Frag) (te : TE) : TE := fun σ H Q => te σ H fun x H1 => ∃ a xs, x = .ref a ∧ ((SqL K H1 a xs ∧ ∀ p, H1 p = none → Q (.ref p) (upd H1 p (.lst xs.reverse))) ∨ (SqT K H1 a xs ∧ ∀ p o, H1 p = none → o.dict = none → Q (.ref p) (upd H1 p (.frz o (.tup xs.reverse)))))
section
variable {X : Cx}
theorem pe_revLT {e : Expr} {te : TE} {k : Nat} {p1 p2 p3 pos : Pos} (he : PE X e te) : PE X (.Subscript e (.Slice none none (some (.UnaryOp .USub (.Constant (.int 1) k p1) p2)) p3) pos) (tRevLT X.K te) := by
  refine ⟨fun pins s σ H Q I h => Subscript_ (thn (he.run pins s σ H _ I h) fun v s1 ⟨x, H1, I1, r1, q1⟩ => ?_)⟩
  obtain ⟨a, xs, ex, q⟩ := q1
  subst ex
  cases r1
  have hst : PO X (some (.UnaryOp .USub (.Constant (.int 1) k p1) p2)) (tPart (tUn (rU fun i => .int (-i)) (tC (.int 1)))) := po_some (pe_un un_neg pe_int)
  refine wpAny_Slice (thn (po_none.run pins s1 σ H1 (fun o H2 => o = none ∧ H2 = H1) I1 ⟨rfl, rfl⟩) fun vl s2 ⟨l, H2, I2, pl, el, e2⟩ => ?_)
  subst el e2
  refine thn (po_none.run pins s2 σ H2 (fun o H3 => o = none ∧ H3 = H2) I2 ⟨rfl, rfl⟩) fun vu s3 ⟨u, H3, I3, pu, eu, e3⟩ => ?_
  subst eu e3
  refine thn (hst.run pins s3 σ H3 (fun o H4 => o = some (-1) ∧ H4 = H3) I3 ⟨1, rfl, -1, rfl, rfl, rfl⟩) fun vs s4 ⟨o, H4, I4, ps, eo, e4⟩ => ?_
  subst eo e4
  have I5 : Inv X pins σ H4 { s4 with heap := s4.heap.push { cls := .type "slice", data := .fields #[vl, vu, vs] } } := I4.kept (t' := s4.toks) fun b ob q => Heap.get?_push_of_some _ q
  rcases q with ⟨hx, q⟩ | ⟨hx, q⟩
  · obtain ⟨its, r, ht, hz⟩ := I5.list hx
    have hlen := r.length
    show wpAny (model X.prog X.w) X.A (subscriptTail e (.Slice none none (some (.UnaryOp .USub (.Constant (.int 1) k p1) p2)) p3) (.ref a) (.ref s4.heap.objs.size)) (EP X pins σ Q) X.xe { s4 with heap := s4.heap.push { cls := .type "slice", data := .fields #[vl, vu, vs] } }
    refine tail_any (ops := [.ref a, .ref s4.heap.objs.size]) ht.isList.typeIs (PySem.slot_list_getitem.lookup) (wpAny_getItem_list_slice ht.isList (Heap.IsSliceOf.new _ vl vu vs) pl pu ps (by decide) ?_ (by rw [List.size_toArray]; omega)) (by with_unfolding_all rfl)
    rw [PySem.W.krv_pick]
    exact ⟨.ref _, _, I5.laid (t' := s4.toks) (o := .lst xs.reverse) (fun b ob q => Heap.get?_push_of_some _ q) (Nat.le_refl _) ⟨by rw [List.length_reverse]; exact hz, _, 0, r.reverse, Heap.get?_push_size _ rfl⟩, rfl, q _ (I5.hok.fresh (Nat.le_refl _))⟩
  · obtain ⟨its, r, ht, hz⟩ := I5.tuple hx
    have hlen := r.length
    cases pl
    cases pu
    show wpAny (model X.prog X.w) X.A (subscriptTail e (.Slice none none (some (.UnaryOp .USub (.Constant (.int 1) k p1) p2)) p3) (.ref a) (.ref s4.heap.objs.size)) (EP X pins σ Q) X.xe { s4 with heap := s4.heap.push { cls := .type "slice", data := .fields #[.none, .none, vs] } }
    refine tail_any (ops := [.ref a, .ref s4.heap.objs.size]) ht.typeIs (PyProof.Rows.slot_tuple_getitem.lookup) (item_back ht (Heap.IsSliceOf.new _ .none .none vs) ps ?_ (by rw [List.size_toArray]; omega)) (by with_unfolding_all rfl)
    refine ⟨.ref _, _, I5.laid (t' := s4.toks) (o := .frz _ (.tup xs.reverse)) (fun b ob q => Heap.get?_push_of_some _ q) (Nat.le_refl _) (tupF_ok (by rw [List.length_reverse]; exact hz) r.reverse (Heap.get?_push_size _ rfl)), rfl, q _ _ (I5.hok.fresh (Nat.le_refl _)) rfl⟩
theorem ev_revT {e : Expr} {f : EF} {k : Nat} {p1 p2 p3 pos : Pos} (he : EvE X e f) : EvE X (.Subscript e (.Slice none none (some (.UnaryOp .USub (.Constant (.int 1) k p1) p2)) p3) pos) (fUn revTD f) :=
  ⟨peImp (pe_revLT he.pe) fun σ H Q h => by
    obtain ⟨Z, ρ, r, ρ', E, e, q⟩ := h
    obtain ⟨⟨x, ρ1⟩, e1, e⟩ := bs e
    obtain ⟨d, e3, e⟩ := bs e
    obtain ⟨r', e5, e⟩ := bs e
    cases e
    refine tE_fz ⟨Z, ρ, x, ρ1, E, e1, fun v H1 Z1 P1 => ?_⟩
    have hs := (P1.rv.toRa (rs_isArg e3)).sh P1.env e3
    unfold revTD at e5
    split at e5
    · split at e5
      · rename_i hl
        cases e5
        obtain ⟨a, us, rfl, ha, hda⟩ := hs.list P1.env.zh
        exact ⟨a, us, rfl, .inl ⟨ha, fun p hp => q _ _ Z1 (Post.trans P1.stp P1.ow ((Alc.newLst P1.env.zh P1.env.zl hp (by rw [List.length_reverse, hda.length]; exact hl) (DpAll.rev2 hda)).post P1.env))⟩⟩
      · cases e5
    · split at e5
      · rename_i hl
        cases e5
        obtain ⟨a, us, rfl, ha, hda⟩ := hs.tuple P1.env.zh
        exact ⟨a, us, rfl, .inr ⟨ha, fun p o hp ho => q _ _ _ (Post.trans P1.stp P1.ow ((Alc.newTup P1.env.zh P1.env.zl hp ho (by rw [List.length_reverse, hda.length]; exact hl) (DpAll.rev2 hda)).post P1.env))⟩⟩
      · cases e5
    · cases e5⟩
end
end Ev


set_option Elab.async false
set_option linter.all false
set_option maxRecDepth 100000
/-! Ev19: item op=; list +=; range with a step; comprehensions with two clauses -/
namespace Ev
open PySem PySem.Spec L2
open PyProof.Rows hiding St
section
variable {X : Cx}
theorem pget_list : PGet X (rIxL X.K) := fun pins s σ H o i ov iv Q I ro ri ⟨p, xs, k, z, e1, e2, hq, he, q⟩ => by
  subst e1 e2
  cases ro
  obtain ⟨t, rfl⟩ := ri
  obtain ⟨its, r, pl, hz⟩ := I.list hq
  obtain ⟨j, h1, h2, h3, h4, h5⟩ := atI_get he
  obtain ⟨w, ew, rw'⟩ := r.get h2
  have hl := r.length
  have hn := line63
  have fin : EP X pins σ Q w s := ⟨z, H, I, rw', q⟩
  by_cases h0 : 0 ≤ k
  · have hj : k.toNat = j := by
      rw [seqIndex_of h0 h5] at h1
      exact Option.some.inj h1
    exact wpAny_getItem_list pl.isList h0 (by omega) (by rw [hj]; simpa using ew) fin
  · have hj : (k + (its.toArray.size : Int)).toNat = j := by
      rw [seqIndex_neg (by omega) h4] at h1
      rw [List.size_toArray, ← hl]
      exact Option.some.inj h1
    exact wpAny_getItem_list_neg pl.isList (by omega) (by rw [List.size_toArray] <;> omega) (by omega) (by rw [hj]; simpa using ew) fin
end
def sAugS (j : Nat) (g : D → D → Option RV) (fi fe : EF) : SF := fun ρ => (mutAt ρ j).bind fun _ => (fFz fi ρ).bind fun p => match p.1 with
  | .fz (.int k) => (mutAt p.2 j).bind fun ds => (atD ds k).bind fun x => (fFz fe p.2).bind fun q => (rs q.2 q.1).bind fun y => (g x y).bind fun r => match r with
    | .fz z => (mutAt q.2 j).bind fun ds2 => (ixN ds2.length k).bind fun n => if ds2.length ≤ sizeLine then (putAt q.2 j (.list (ds2.set n z))).bind fun ρ2 => some (.nx, ρ2) else none
    | _ => none
  | _ => none
section
variable {K : PySem.W.Frag} {H Z H' Z' : Hp} {σ : St} {ρ ρ' : Ρ}
theorem atD_dp {ds : List D} {xs : List V} {k : Int} {d : D} (h : DpAll K Z xs ds) (e : atD ds k = some d) : ∃ v, atI xs k = some v ∧ Dp K Z v d := by
  unfold atD at e
  obtain ⟨j, e1, e2⟩ := bs e
  obtain ⟨v, e3, r⟩ := h.get e2
  refine ⟨v, ?_, r⟩
  unfold atI
  rw [h.length, e1]; exact e3
theorem tS_augS {j : Nat} {g : D → D → Option RV} {fi fe : EF} {D : Ends} (h : tS K (sAugS j g fi fe) D σ H) : tAugS (tVar j) (tE K fi) (tE K fe) (rIxL K) (rOp2 K g) rSetL D σ H := by
  obtain ⟨Z, ρ, c, ρ', E, e, q⟩ := h
  obtain ⟨ds0, e0, e⟩ := bs e
  obtain ⟨⟨r, ρ1⟩, e1, e⟩ := bs e
  obtain ⟨s0, a, xs0, hs0, hm0, ea, ha0, hd0, hz0, za0⟩ := mutAt_own E e0
  refine ⟨_, ea, tE_fz ⟨Z, ρ, r, ρ1, E, e1, fun v H1 Z1 P => ?_⟩⟩
  dsimp only at e
  split at e
  · rename_i k
    obtain ⟨ds, e2, e⟩ := bs e
    obtain ⟨x, e3, e⟩ := bs e
    obtain ⟨⟨y, ρ2⟩, e4, e⟩ := bs e
    obtain ⟨d2, e5, e⟩ := bs e
    obtain ⟨rr, e6, e⟩ := bs e
    obtain ⟨s1, a1, xs1, hs1, hm1, ea1, ha1, hd1, hz1, za1⟩ := mutAt_own P.env e2
    rw [ea] at ea1; cases ea1
    obtain ⟨vx, ex, rx⟩ := atD_dp hd1 e3
    have hrv := P.rv
    cases hrv with
    | fz hk =>
      cases hk
      refine ⟨a, xs1, k, vx, rfl, rfl, .of ha1, ex, tE_fz ⟨Z1, ρ1, y, ρ2, P.env, e4, fun u H2 Z2 P2 => ?_⟩⟩
      refine ⟨Z2, x, d2, rr, P2.env.zh, P2.env.zl, .inl (Dp.mono P2.stp.zz rx), (P2.rv.toRa (rs_isArg e5)).sh P2.env e5, e6, fun w H3 Z3 A => ?_⟩
      have P3 := A.post P2.env
      dsimp only at e
      split at e
      · rename_i z
        obtain ⟨ds2, e7, e⟩ := bs e
        obtain ⟨n, e8, e⟩ := bs e
        split at e
        · rename_i hz
          obtain ⟨ρ3, e9, e⟩ := bs e
          cases e
          obtain ⟨s2, a2, xs2, hs2, hm2, ea2, ha2, hd2, hz2, za2⟩ := mutAt_own P3.env e7
          rw [ea] at ea2; cases ea2
          refine ⟨a, xs2, k, n, rfl, rfl, ha2, by rw [hd2.length]; exact e8, ?_⟩
          have hw := A.rv
          have P4 := put_post P3.env e9 ea hw (DpAll.set hw n hd2) (by rw [List.length_set]; exact hz)
          exact q σ _ Z3 (P.toS.trans (P2.toS.trans (P3.toS.trans P4.toS)))
        · cases e
      · cases e
  · cases e
def sExt (i : Nat) (f : EF) : SF := fun ρ => (mutAt ρ i).bind fun _ => (f ρ).bind fun p => match p.1 with
  | .fr (.list es) => (mutAt p.2 i).bind fun ds => if (ds ++ es).length ≤ sizeLine then (putAt p.2 i (.list (ds ++ es))).bind fun ρ2 => some (.nx, ρ2) else none
  | .bw j => (mutAt p.2 j).bind fun es => (mutAt p.2 i).bind fun ds => if (ds ++ es).length ≤ sizeLine then (putAt p.2 i (.list (ds ++ es))).bind fun ρ2 => some (.nx, ρ2) else none
  | _ => none
theorem set_self {i : Nat} {x : Option V} (h : σ[i]? = some x) : σ.set i x = σ := by
  apply List.ext_getElem?
  intro j
  by_cases e : i = j
  · subst e
    rw [List.getElem?_set_self (List.getElem?_eq_some_iff.mp h).1, h]
  · rw [List.getElem?_set_ne e]
theorem tS_ext {i : Nat} {f : EF} {D : Ends} (h : tS K (sExt i f) D σ H) : tAug i (tE K f) rExt2 D σ H := by
  obtain ⟨Z, ρ, c, ρ', E, e, q⟩ := h
  obtain ⟨ds0, e0, e⟩ := bs e
  obtain ⟨⟨r, ρ1⟩, e1, e⟩ := bs e
  obtain ⟨s0, a, xs0, hs0, hm0, ea, ha0, hd0, hz0, za0⟩ := mutAt_own E e0
  refine ⟨_, ea, Z, ρ, r, ρ1, E, e1, fun v H1 Z1 P => ?_⟩
  have go : ∀ {b : Addr} {zs : List V} {es : List PyData}, v = .ref b → H1 b = some (.lst zs) → DpAll K Z1 zs es → ((mutAt ρ1 i).bind fun ds => if (ds ++ es).length ≤ sizeLine then (putAt ρ1 i (.list (ds ++ es))).bind fun ρ2 => some (Ctl.nx, ρ2) else none) = some (c, ρ') → rExt2 (.ref a) v H1 fun z H2 => D.nx (σ.set i (some z)) H2 := fun {b zs es} ev hb hd e => by
    obtain ⟨ds, e3, e⟩ := bs e
    split at e
    · rename_i hz
      obtain ⟨ρ2, e5, e⟩ := bs e
      cases e
      obtain ⟨s1, a1, xs1, hs1, hm1, ea1, ha1, hd1, hz1, za1⟩ := mutAt_own P.env e3
      rw [ea] at ea1; cases ea1
      refine ⟨a, b, xs1, zs, rfl, ev, ha1, hb, by rw [← List.length_append, (hd1.append hd).length]; exact hz, ?_⟩
      have P3 := put_post (v := .non) (d := .none) P.env e5 ea .non (hd1.append hd) hz
      show D.nx (σ.set i (some (.ref a))) _
      rw [set_self ea]
      exact q σ _ Z1 (P.toS.trans P3.toS)
    · cases e
  cases r with
  | fz d => cases e
  | fr d =>
    cases d with
    | list es =>
      have hrv := P.rv
      cases hrv with
      | fr ev ho zb no =>
        cases ho with
        | lst h1 h2 h3 => exact go ev h1 h2 e
    | _ => cases e
  | bw j =>
    obtain ⟨es, e2, e⟩ := bs (show (mutAt ρ1 j).bind _ = some (c, ρ') from e)
    obtain ⟨s2, b, zs, hs2, hm2, eb, hb, hd2, hz2, zb⟩ := mutAt_own P.env e2
    have hrv := P.rv
    cases hrv with
    | bw ev =>
      rw [ev] at eb
      have : v = .ref b := by cases eb; rfl
      exact go this hb hd2 e
end
section
variable {X : Cx} {pos : Pos}
theorem es_augS {j : Nat} {o i e : Expr} {op : Operator} {g : D → D → Option RV} {fi fe : EF} {tpos : Pos} (ho : PE X o (tVar j)) (hi : EvE X i fi) (he : EvE X e fe) (hp : PIp X op (rOp2 X.K g))
    (ha : ∀ ov iv new, augStore i ov iv new = (do holding [new, ov, iv] (setItem ov iv new); release [new, ov, iv] []; pure .next) := by intros; rfl) : EvS X (.AugAssign (.Subscript o i tpos) op e pos) (sAugS j g fi fe) :=
  ⟨psImp (ps_augS ho hi.pe pget_list he.pe hp set_list ha) fun D σ H h => tS_augS h⟩
theorem es_ext {i : Nat} {x : Str} {e : Expr} {f : EF} {pos' : Pos} (hN : X.N.Nodup) (hi : X.N[i]? = some x) (hx : Loc X.env.scope x) (he : EvE X e f) (hf : X.fn x = true ∨ X.env.scope.names.lookup x = some .local := by first | exact .inl rfl | exact .inr rfl | assumption) :
    EvS X (.AugAssign (.Name x pos') .Add e pos) (sExt i f) := ⟨psImp (ps_aug hN hi hx he.pe iop_ext hf) fun D σ H h => tS_ext h⟩
end
/-! ### two clauses -/
def compL2 (tg : GF) (tt : TF) (it1 : IF) (tg1 : GF) (tt1 : TF) (te : EF) (vs vs1 : List Nat) : List D → Ρ → Option (List D × Ρ)
  | [], ρ => some ([], ρ)
  | d :: ds, ρ => (tg d ρ).bind fun ρ1 => (tt ρ1).bind fun p => if p.1 = true then (it1 p.2).bind fun x => (compL tg1 tt1 te vs1 x.1 (wipeR x.2 vs1)).bind fun z => (compL2 tg tt it1 tg1 tt1 te vs vs1 ds (wipeR z.2 vs)).bind fun w => some (z.1 ++ w.1, w.2)
      else compL2 tg tt it1 tg1 tt1 te vs vs1 ds (wipeR p.2 vs)
def fComp2 (vs vs1 : List Nat) (it : IF) (tg : GF) (tt : TF) (it1 : IF) (tg1 : GF) (tt1 : TF) (te : EF) : EF := fun ρ => (it ρ).bind fun p => if (vs.all fun v => (p.2.getD v .no).plain) = true then
    (compL2 tg tt it1 tg1 tt1 te vs vs1 p.1 (wipeR p.2 vs)).bind fun q => if q.1.length ≤ sizeLine then some (.fr (.list q.1), unw p.2 q.2 vs) else none
  else none
section
variable {K : PySem.W.Frag} {H Z H' Z' : Hp} {σ : St} {ρ ρ' : Ρ} {vs vs1 : List Nat}
theorem wipe_wipe (h : ∀ j ∈ vs1, j ∈ vs) : wipe (wipe σ vs1) vs = wipe σ vs := by
  apply List.ext_getElem?
  intro j
  by_cases hj : j ∈ vs
  · rw [wipe_in hj, wipe_in hj, wipe_length]
  · rw [wipe_out' hj, wipe_out' hj, wipe_out' fun z => hj (h j z)]
/-- what holds between two turns: D holds acc; nothing new is owned -/
structure CInv (K : PySem.W.Frag) (σ0 : St) (ρ0 : Ρ) (H0 Z0 : Hp) (D : Addr) (σ : St) (ρ : Ρ) (H Z : Hp) (acc : List V) (dacc : List Ev.D) : Prop where
  stp : Stp (OwnA σ0 ρ0) H0 Z0 H Z
  env : EnvOk K H Z σ ρ
  ow : ∀ a, OwnA σ ρ a → OwnA σ0 ρ0 a
  io : ∀ (j : Nat) (d : Ev.D), ρ[j]? = some (.io d) → ∃ d', ρ0[j]? = some (.io d')
  at_ : H D = some (.lst acc)
  zn : Z D = none
  dp : DpAll K Z acc dacc
section
variable {σ0 σ' : St} {ρ0 : Ρ} {H0 Z0 : Hp} {D : Addr} {acc : List V} {dacc : List Ev.D}
theorem CInv.stepE (c : CInv K σ0 ρ0 H0 Z0 D σ ρ H Z acc dacc) (no : ¬ OwnA σ0 ρ0 D) (s : Stp (OwnA σ ρ) H Z H' Z') (E : EnvOk K H' Z' σ ρ') (o : Ow σ ρ ρ') : CInv K σ0 ρ0 H0 Z0 D σ ρ' H' Z' acc dacc where
  stp := c.stp.trans (fun b h => .inl (c.ow b h)) s
  env := E
  ow := fun a h => c.ow a (o.ow a h)
  io := fun j d h => let ⟨d1, h1⟩ := o.io j d h; c.io j d1 h1
  at_ := s.fr D _ c.at_ fun h => no (c.ow D h)
  zn := s.nonZ c.zn ⟨_, c.at_⟩ fun h => no (c.ow D h)
  dp := DpAll.mono s.zz c.dp
theorem CInv.stepG {sl : List Nat} (c : CInv K σ0 ρ0 H0 Z0 D σ ρ H Z acc dacc) (no : ¬ OwnA σ0 ρ0 D) (G : PostG K sl σ ρ H Z σ' ρ' H' Z') : CInv K σ0 ρ0 H0 Z0 D σ' ρ' H' Z' acc dacc where
  stp := c.stp.trans (fun b h => .inl (c.ow b h)) G.s.stp
  env := G.s.env
  ow := fun a h => c.ow a (G.ow a h)
  io := fun j d h => let ⟨_, d1, h1⟩ := G.s.io j d h; c.io j d1 h1
  at_ := G.s.stp.fr D _ c.at_ fun h => no (c.ow D h)
  zn := G.s.stp.nonZ c.zn ⟨_, c.at_⟩ fun h => no (c.ow D h)
  dp := DpAll.mono G.s.stp.zz c.dp
theorem CInv.wiped (c : CInv K σ0 ρ0 H0 Z0 D σ ρ H Z acc dacc) (vs : List Nat) : CInv K σ0 ρ0 H0 Z0 D (wipe σ vs) (wipeR ρ vs) H Z acc dacc where
  stp := c.stp
  env := c.env.wiped
  ow := fun a h => c.ow a h.ofWipe
  io := fun j d h => by
    rcases wipeR_get h with ⟨_, z⟩ | ⟨_, h⟩
    · cases z
    · exact c.io j d h
  at_ := c.at_
  zn := c.zn
  dp := c.dp
theorem CInv.push (c : CInv K σ0 ρ0 H0 Z0 D σ ρ H Z acc dacc) (no : ¬ OwnA σ0 ρ0 D) (hD : H0 D = none) {v : V} {d : Ev.D} (r : Dp K Z v d) : CInv K σ0 ρ0 H0 Z0 D σ ρ (upd H D (.lst (acc ++ [v]))) Z (acc ++ [v]) (dacc ++ [d]) where
  stp := c.stp.updD hD
  env := c.env.updD c.zn fun h => no (c.ow D h)
  ow := c.ow
  io := c.io
  at_ := upd_same
  zn := c.zn
  dp := c.dp.append (.cons r .nil)
end
theorem tE_lc2 {it it1 : IF} {tg tg1 : GF} {tt tt1 : TF} {te : EF} {sl sl1 : List Nat} {Q : VK} (hs : ∀ j ∈ sl, j ∈ vs) (hs1 : ∀ j ∈ sl1, j ∈ vs1) (hv : ∀ j ∈ vs1, j ∈ vs) (h : tE K (fComp2 vs vs1 it tg tt it1 tg1 tt1 te) σ H Q) :
    tLc2 (tI K it) (tG K sl tg) (tT K tt) (tI K it1) (tG K sl1 tg1) (tT K tt1) (tE K te) vs vs1 σ H Q := by
  obtain ⟨Z, ρ, r, ρ', E, e, q⟩ := h
  obtain ⟨⟨xs, ρ1⟩, e1, e⟩ := bs e
  dsimp only at e
  split at e
  · rename_i pl
    have pl : ∀ v ∈ vs, (ρ1.getD v .no).plain = true := List.all_eq_true.mp pl
    obtain ⟨⟨tot, ρe⟩, e2, e⟩ := bs e
    dsimp only at e
    split at e
    · rename_i hz
      cases e
      refine ⟨Z, ρ, xs, ρ1, E, e1, fun J H1 Z1 s1 E1 o1 jok D hD => ?_⟩
      have noD1 : ¬ OwnA σ ρ1 D := E1.notOwn hD
      have zD1 : Z1 D = none := E1.znone hD
      have noD : ¬ OwnA (wipe σ vs) (wipeR ρ1 vs) D := fun h => noD1 h.ofWipe
      have c0 : CInv K (wipe σ vs) (wipeR ρ1 vs) H1 Z1 D (wipe σ vs) (wipeR ρ1 vs) (upd H1 D (.lst [])) Z1 [] [] := ⟨.updD .refl hD, E1.wiped.updD zD1 noD, fun _ h => h, fun j d h => ⟨d, h⟩, upd_same, zD1, .nil⟩
      refine ⟨fun i m H2 => ∃ Z2 ρ2 acc dacc ys, CInv K (wipe σ vs) (wipeR ρ1 vs) H1 Z1 D (wipe σ vs) ρ2 H2 Z2 acc dacc ∧ m = xs.length - i ∧ compL2 tg tt it1 tg1 tt1 te vs vs1 (xs.drop i) ρ2 = some (ys, ρe) ∧ dacc ++ ys = tot,
        ⟨_, Z1, wipeR ρ1 vs, [], [], tot, c0, rfl, e2, rfl⟩, ?_⟩
      rintro i m H2 ⟨Z2, ρ2, acc, dacc, ys, c2, rfl, el, htot⟩
      obtain ⟨jgo, jy, jstop⟩ := jok H2 Z2 c2.stp.zz c2.env.zh
      by_cases hi : i < xs.length
      · refine .inr ⟨jgo i hi, fun H2 => ∃ Z2 ρ2 acc dacc ys, CInv K (wipe σ vs) (wipeR ρ1 vs) H1 Z1 D (wipe σ vs) ρ2 H2 Z2 acc dacc ∧ compL2 tg tt it1 tg1 tt1 te vs vs1 (xs.drop (i + 1)) ρ2 = some (ys, ρe) ∧ dacc ++ ys = tot,
          fun H' ⟨Z2, ρ2, acc, dacc, ys, a1, a2, a3⟩ => ⟨xs.length - (i + 1), by omega, Z2, ρ2, acc, dacc, ys, a1, rfl, a2, a3⟩, fun x H' y => ?_⟩
        rw [List.drop_eq_getElem_cons hi] at el
        obtain ⟨rfl, hd⟩ := jy i x H' _ y (List.getElem?_eq_getElem hi)
        obtain ⟨ρ3, e3, el⟩ := bs el
        obtain ⟨⟨b, ρ4⟩, e4, el⟩ := bs el
        refine ⟨Z2, ρ2, _, ρ3, c2.env, hd, e3, fun σ3 H3 Z3 G3 => ?_⟩
        have hw : wipe σ3 vs = wipe σ vs := wipe_eq (by rw [G3.len, wipe_length]) G3.keep hs
        have c3 := c2.stepG noD G3
        refine ⟨hw, Z3, ρ3, b, ρ4, c3.env, e4, fun H4 Z4 s4 E4 o4 => ?_⟩
        have c4 := c3.stepE noD s4 E4 o4
        cases b with
        | false =>
          show if false = true then _ else _
          rw [if_neg Bool.false_ne_true]
          dsimp only at el
          rw [if_neg Bool.false_ne_true] at el
          have c5 := c4.wiped vs
          rw [hw] at c5
          exact ⟨Z4, wipeR ρ4 vs, acc, dacc, ys, c5, el, htot⟩
        | true =>
          show if true = true then _ else _
          rw [if_pos rfl]
          dsimp only at el
          rw [if_pos rfl] at el
          obtain ⟨⟨xs1, ρ5⟩, e5, el⟩ := bs el
          obtain ⟨⟨zi, ρi⟩, e6, el⟩ := bs el
          obtain ⟨⟨ws, ρw⟩, e7, el⟩ := bs el
          cases el
          refine ⟨Z4, ρ4, xs1, ρ5, E4, e5, fun J1 H5 Z5 s5 E5 o5 jok1 => ?_⟩
          have c5 := (c4.stepE noD s5 E5 o5).wiped vs1
          refine ⟨fun j k H6 => ∃ Z6 ρ6 acc6 dacc6 ys6, CInv K (wipe σ vs) (wipeR ρ1 vs) H1 Z1 D (wipe σ3 vs1) ρ6 H6 Z6 acc6 dacc6 ∧ Hsub Z5 Z6 ∧ k = xs1.length - j ∧ compL tg1 tt1 te vs1 (xs1.drop j) ρ6 = some (ys6, ρi) ∧ dacc6 ++ ys6 = dacc ++ zi,
            ⟨_, Z5, _, acc, dacc, zi, c5, .refl, rfl, e6, rfl⟩, ?_⟩
          rintro j k H6 ⟨Z6, ρ6, acc6, dacc6, ys6, c6, z56, rfl, el6, ht6⟩
          obtain ⟨jgo1, jy1, jstop1⟩ := jok1 H6 Z6 z56 c6.env.zh
          by_cases hj : j < xs1.length
          · refine .inr ⟨jgo1 j hj, fun H6 => ∃ Z6 ρ6 acc6 dacc6 ys6, CInv K (wipe σ vs) (wipeR ρ1 vs) H1 Z1 D (wipe σ3 vs1) ρ6 H6 Z6 acc6 dacc6 ∧ Hsub Z5 Z6 ∧ compL tg1 tt1 te vs1 (xs1.drop (j + 1)) ρ6 = some (ys6, ρi) ∧ dacc6 ++ ys6 = dacc ++ zi,
              fun H' ⟨Z6, ρ6, acc6, dacc6, ys6, a1, a2, a3, a4⟩ => ⟨xs1.length - (j + 1), by omega, Z6, ρ6, acc6, dacc6, ys6, a1, a2, rfl, a3, a4⟩, fun x H' y => ?_⟩
            rw [List.drop_eq_getElem_cons hj] at el6
            obtain ⟨rfl, hd1⟩ := jy1 j x H' _ y (List.getElem?_eq_getElem hj)
            obtain ⟨ρ7, e7', el6⟩ := bs el6
            obtain ⟨⟨b1, ρ8⟩, e8, el6⟩ := bs el6
            refine ⟨Z6, ρ6, _, ρ7, c6.env, hd1, e7', fun σ7 H7 Z7 G7 => ?_⟩
            have hw7 : wipe σ7 vs1 = wipe σ3 vs1 := wipe_eq (by rw [G7.len, wipe_length]) G7.keep hs1
            have c7 := c6.stepG noD G7
            refine ⟨hw7, Z7, ρ7, b1, ρ8, c7.env, e8, fun H8 Z8 s8 E8 o8 => ?_⟩
            have c8 := c7.stepE noD s8 E8 o8
            have z58 : Hsub Z5 Z8 := z56.trans (G7.s.stp.zz.trans s8.zz)
            cases b1 with
            | false =>
              show if false = true then _ else _
              rw [if_neg Bool.false_ne_true]
              dsimp only at el6
              rw [if_neg Bool.false_ne_true] at el6
              have c9 := c8.wiped vs1
              rw [hw7] at c9
              exact ⟨Z8, wipeR ρ8 vs1, acc6, dacc6, ys6, c9, z58, el6, ht6⟩
            | true =>
              show if true = true then _ else _
              rw [if_pos rfl]
              dsimp only at el6
              rw [if_pos rfl] at el6
              obtain ⟨⟨y, ρ9⟩, e9, el6⟩ := bs el6
              refine tE_fz ⟨Z8, ρ8, y, ρ9, E8, e9, fun v H9 Z9 P9 => ?_⟩
              have hrv := P9.rv
              cases hrv with
              | @fz dv hdv =>
                obtain ⟨⟨ys', ρ10⟩, e10, el6⟩ := bs el6
                cases el6
                have c9 := c8.stepE noD P9.stp P9.env P9.ow
                have hlen : acc6.length < sizeLine := by
                  have h1 : tot.length ≤ sizeLine := hz
                  have htot' : dacc ++ (zi ++ ws) = tot := htot
                  rw [← htot', List.length_append, List.length_append] at h1
                  have h3 : (dacc6 ++ dv :: ys').length = dacc6.length + (ys'.length + 1) := by rw [List.length_append, List.length_cons]
                  have h4 : (dacc6 ++ dv :: ys').length = dacc.length + zi.length := by rw [show dacc6 ++ dv :: ys' = dacc ++ zi from ht6, List.length_append]
                  rw [c6.dp.length]
                  omega
                have c10 := (c9.push noD hD hdv).wiped vs1
                rw [hw7] at c10
                exact ⟨acc6, c9.at_, hlen, Z9, wipeR ρ9 vs1, acc6 ++ [v], dacc6 ++ [dv], ys', c10, z58.trans P9.stp.zz, e10, by rw [List.append_assoc]; exact ht6⟩
              | fr => cases el6
              | bw => cases el6
          · refine .inl ⟨jstop1 j (by omega), ?_⟩
            rw [List.drop_eq_nil_of_le (by omega)] at el6
            cases el6
            rw [List.append_nil] at ht6
            have c11 := c6.wiped vs
            rw [wipe_wipe hv, hw] at c11
            exact ⟨Z6, _, acc6, dacc6, ws, c11, e7, by rw [ht6, List.append_assoc]; exact htot⟩
      · refine .inl ⟨jstop i (by omega), ?_⟩
        rw [List.drop_eq_nil_of_le (by omega)] at el
        cases el
        rw [List.append_nil] at htot
        subst htot
        have o2 : Ow (wipe σ vs) (wipeR ρ1 vs) _ := ⟨c2.ow, c2.io⟩
        refine q _ H2 Z2 ⟨s1.trans (fun b h => .inl (o1.ow b h.ofWipe)) c2.stp, EnvOk.unwiped E1 pl c2.stp.zz c2.env, o1.trans (Ow.unwiped (pl := pl) o2), .fr rfl (.lst c2.at_ c2.dp (by rw [c2.dp.length]; exact hz)) c2.zn fun h => noD (c2.ow D (h.ofUnw pl)), fun a d _ e2 => ?_⟩
        cases e2
        exact (PostS.ofT s1 E1 o1).nw (.inl hD)
    · cases e
  · cases e
end
section
variable {X : Cx} {pos : Pos} {elt tg iter tg1 iter1 : Expr} {ifs ifs1 : List Expr} {scope : Scope} {it it1 : IF} {g g1 : GF} {sl sl1 : List Nat} {tt tt1 : TF} {te : EF} (own : List (Str × Nat)) (vs1 : List Nat)
theorem ev_lc2 (hc : X.calm = true) (hN : X.N.Nodup) (hi : EvI X tg iter it) (ok : BlkOk X.N X.env.scope scope own) (hsl : ∀ j ∈ sl, j ∈ own.map (·.2)) (hsl1 : ∀ j ∈ sl1, j ∈ vs1) (hv : ∀ j ∈ vs1, j ∈ own.map (·.2))
    (hg : ∀ (s : Shared) (H : Hp) (C : Addr) (cl : List (Str × Addr)) (fp : List Addr), EvG (X.blk s H scope (compEnvC scope cl C X.env) fp) tg sl g) (ht : ∀ (s : Shared) (H : Hp) (C : Addr) (cl : List (Str × Addr)) (fp : List Addr), EvTs (X.blk s H scope (compEnvC scope cl C X.env) fp) ifs tt)
    (hi1 : ∀ (s : Shared) (H : Hp) (C : Addr) (cl : List (Str × Addr)) (fp : List Addr), EvI (X.blk s H scope (compEnvC scope cl C X.env) fp) tg1 iter1 it1)
    (hg1 : ∀ (s : Shared) (H : Hp) (C : Addr) (cl : List (Str × Addr)) (fp : List Addr), EvG (X.blk s H scope (compEnvC scope cl C X.env) fp) tg1 sl1 g1) (ht1 : ∀ (s : Shared) (H : Hp) (C : Addr) (cl : List (Str × Addr)) (fp : List Addr), EvTs (X.blk s H scope (compEnvC scope cl C X.env) fp) ifs1 tt1)
    (he : ∀ (s : Shared) (H : Hp) (C : Addr) (cl : List (Str × Addr)) (fp : List Addr), EvE (X.blk s H scope (compEnvC scope cl C X.env) fp) elt te) (hs : ∀ x, foldedSetIterable iter X.env x = pure x := by intro _; rfl) (hs1 : ∀ env x, foldedSetIterable iter1 env x = pure x := by intro _ _; rfl) :
    EvE X (.ListComp elt [⟨tg, iter, ifs, 0⟩, ⟨tg1, iter1, ifs1, 0⟩] scope pos) (fComp2 (own.map (·.2)) vs1 it g tt it1 g1 tt1 te) :=
  ⟨peImp (pe_lc2 hc hN hi.pi ok hv (fun s H C cl fp => (hg s H C cl fp).pg) (fun s H C cl fp => (ht s H C cl fp).pts) (fun s H C cl fp => (hi1 s H C cl fp).pi) (fun s H C cl fp => (hg1 s H C cl fp).pg) (fun s H C cl fp => (ht1 s H C cl fp).pts) (fun s H C cl fp => (he s H C cl fp).pe) hs hs1) fun σ H Q h => tE_lc2 hsl hsl1 hv h⟩
theorem es_setLc2 {i : Nat} {y : Str} {py spos : Pos} (hc : X.calm = true) (hN : X.N.Nodup) (hy : X.N[i]? = some y) (hyl : X.env.scope.names.lookup y = some .local)
    (hsw : swapsWith (.ListComp elt [⟨tg, iter, ifs, 0⟩, ⟨tg1, iter1, ifs1, 0⟩] scope pos) (some (.Name y py)) spos.line X.env = pure true) (hi : EvI X tg iter it) (ok : BlkOk X.N X.env.scope scope own) (hsl : ∀ j ∈ sl, j ∈ own.map (·.2)) (hsl1 : ∀ j ∈ sl1, j ∈ vs1) (hv : ∀ j ∈ vs1, j ∈ own.map (·.2))
    (hg : ∀ (s : Shared) (H : Hp) (C : Addr) (cl : List (Str × Addr)) (fp : List Addr), EvG (X.blk s H scope (compEnvC scope cl C X.env) fp) tg sl g) (ht : ∀ (s : Shared) (H : Hp) (C : Addr) (cl : List (Str × Addr)) (fp : List Addr), EvTs (X.blk s H scope (compEnvC scope cl C X.env) fp) ifs tt)
    (hi1 : ∀ (s : Shared) (H : Hp) (C : Addr) (cl : List (Str × Addr)) (fp : List Addr), EvI (X.blk s H scope (compEnvC scope cl C X.env) fp) tg1 iter1 it1)
    (hg1 : ∀ (s : Shared) (H : Hp) (C : Addr) (cl : List (Str × Addr)) (fp : List Addr), EvG (X.blk s H scope (compEnvC scope cl C X.env) fp) tg1 sl1 g1) (ht1 : ∀ (s : Shared) (H : Hp) (C : Addr) (cl : List (Str × Addr)) (fp : List Addr), EvTs (X.blk s H scope (compEnvC scope cl C X.env) fp) ifs1 tt1)
    (he : ∀ (s : Shared) (H : Hp) (C : Addr) (cl : List (Str × Addr)) (fp : List Addr), EvE (X.blk s H scope (compEnvC scope cl C X.env) fp) elt te) (hs : ∀ x, foldedSetIterable iter X.env x = pure x := by intro _; rfl) (hs1 : ∀ env x, foldedSetIterable iter1 env x = pure x := by intro _ _; rfl) :
    EvS X (.Assign [.Name y py] (.ListComp elt [⟨tg, iter, ifs, 0⟩, ⟨tg1, iter1, ifs1, 0⟩] scope pos) spos) (sSet i (fComp2 (own.map (·.2)) vs1 it g tt it1 g1 tt1 te)) :=
  ⟨psImp (ps_setLc2 hc hN hy hyl hsw hi.pi ok hv (fun s H C cl fp => (hg s H C cl fp).pg) (fun s H C cl fp => (ht s H C cl fp).pts) (fun s H C cl fp => (hi1 s H C cl fp).pi) (fun s H C cl fp => (hg1 s H C cl fp).pg) (fun s H C cl fp => (ht1 s H C cl fp).pts) (fun s H C cl fp => (he s H C cl fp).pe) hs hs1) fun D σ H h => by
    have h1 := tS_set h
    exact tE_lc2 hsl hsl1 hv h1⟩
end
end Ev


set_option Elab.async false
set_option linter.all false
set_option maxRecDepth 100000
/-! Ev20: range with a step; sets of whole numbers in a list -/
namespace Ev
open PySem PySem.Spec L2
open PyProof.Rows hiding St
theorem turn_longC {P : Program} {w : World} {K : PySem.W.Frag} {tg : Expr} (it : Addr) (lo c : Int) (n : Nat) : Turn P w K tg (Itc lo c n) [it] it (fun i h => IsLongIter h it (lo + (i : Nat) * c) ((n : Int) - (i : Nat)) c) where
  mem := by simp
  obj := fun i h st b hb => by
    have e : b = it := by simpa using hb
    subst e
    exact ⟨_, st, fun v z => by
      have z' : Data.fields _ = Data.cell v := z
      cases z'⟩
  keep := fun i h h' st k => k it (by simp) _ st
  item := by
    intro X hP hw hK hc i pins s σ H E I hf st hg
    subst hP hw hK
    obtain ⟨f0, f1, f2, f3, f4, f5⟩ := hf it (by simp)
    have W := Walks.longrange (prog := X.prog) (w := X.w) (I.ok.hd hc) it lo c n
    refine W.item i s _ _ hg st fun v h' tk hv st' kk => ?_
    obtain ⟨t, rfl⟩ := hv
    have I1 : Inv X pins σ H { s with heap := h', toks := tk } := I.turned (fun b o hb e => kk b o (by simpa using hb) e) f0 f1 f3 f4 f5
    exact ⟨_, rfl, go_of (s := { s with heap := h', toks := tk }) (n := "longrange_iterator") st' rfl rfl (by decide) ⟨.int (lo + (i : Nat) * c), H, I1, ⟨t, rfl⟩, ⟨rfl, rfl⟩, st', fun b hb => (hf b hb).1⟩⟩
  done := by
    intro X hP hw hK hc i pins s σ H E I hf st hg
    subst hP hw hK
    obtain ⟨f0, f1, f2, f3, f4, f5⟩ := hf it (by simp)
    exact wpAny_pyNext_long_end (I.ok.hd hc) st (by have : n ≤ i := hg; omega) fun h' eb => ⟨rfl, I.turned (t' := s.toks) (fun b o hb e => eb b o hb e) f0 f1 f3 f4 f5⟩
  self := fun _ _ _ _ _ st h => wpAny_pyIter_longiter st h
section
variable {X : Cx} {tg : Expr}
theorem range_itC {pins : List (Addr × Obj)} {σ : St} {H : Hp} {s : Shared} {R : It → Hp → Prop} {E : Value → Shared → Prop} {lo hi c : Int} {t u v : Tok} {tk : Nat} (I : Inv X pins σ H s)
    (q : R (Itc lo c (Builtin.Range.rangeSize lo hi c).toNat) H) : wpAny (model X.prog X.w) X.A (pyIter (.ref s.heap.objs.size)) (PIE X pins σ tg R) E { s with heap := s.heap.push { cls := .type "range", data := .fields #[.int lo t, .int hi u, .int c v] }, toks := tk } := by
  have I1 : Inv X pins σ H { s with heap := s.heap.push { cls := .type "range", data := .fields #[.int lo t, .int hi u, .int c v] }, toks := tk } := I.kept fun b o e => Heap.get?_push_of_some _ e
  have e1 : lo + ((0 : Nat) : Int) * c = lo := by simp
  have e2 : (((Builtin.Range.rangeSize lo hi c).toNat : Nat) : Int) - ((0 : Nat) : Int) = Builtin.Range.rangeSize lo hi c := by rw [← rangeSize_toNat]; simp
  cases hs : Builtin.Range.small lo hi c with
  | true =>
    refine wpAny_pyIter_range (IsRange.new ..) hs (pi_one (tk := tk) I1 _ (turn_rangeC _ lo c _) ?_ q)
    show IsRangeIter _ _ (lo + ((0 : Nat) : Int) * c) ((((Builtin.Range.rangeSize lo hi c).toNat : Nat) : Int) - ((0 : Nat) : Int)) c
    rw [e1, e2]
    exact Heap.get?_push_size _ rfl
  | false =>
    refine wpAny_pyIter_longrange (IsRange.new ..) hs (pi_one (tk := tk) I1 _ (turn_longC _ lo c _) ?_ q)
    show IsLongIter _ _ (lo + ((0 : Nat) : Int) * c) ((((Builtin.Range.rangeSize lo hi c).toNat : Nat) : Int) - ((0 : Nat) : Int)) c
    rw [e1, e2]
    exact Heap.get?_push_size _ rfl
def iRngL3 (ta : TA) : TI := fun σ H R => ta σ H fun vs H1 => ∃ i j c : Int, vs = [.int i, .int j, .int c] ∧ c ≠ 0 ∧ c.natAbs.log2 < 9000 ∧ R (Itc i c (Builtin.Range.rangeSize i j c).toNat) H1
theorem pi_rangeL3 {a b c : Expr} {ta : TA} {p pos : Pos} (hg : Gl X "range") (hm : X.mg "range" = none) (ha : PA X [a, b, c] ta)
    (hs : starEach [a, b, c] X.env = (false, eval a X.env) :: starEach [b, c] X.env := by rfl) (hpl : (backTo pos (starEach [b, c] X.env)).any (·.1) = false := by rfl) :
    PI X tg (.Call (.Name "range" p) [a, b, c] [] pos) (iRngL3 ta) := by
  refine ⟨fun pins s σ H R I h => Call_ (ld_blt I hg hm boot_range (PyProof.Rows.callWith_type1 (thn (ha.run pos pins s σ H _ I h) fun us s1 ⟨vs, H1, I1, r1, q1⟩ => ?_) hs hpl))⟩
  obtain ⟨i, j, k, e, c0, c1, q⟩ := q1
  subst e
  cases r1 with
  | cons r rr =>
    cases rr with
    | cons r' rr =>
      cases rr with
      | cons r'' rr =>
        cases rr
        obtain ⟨t, rfl⟩ := r
        obtain ⟨t', rfl⟩ := r'
        obtain ⟨t'', rfl⟩ := r''
        exact call_range_3 c0 (range_itC I1 q) (.inl (PyProof.noPylong_of_log2 c1))
end
def rangeC (a c : Int) (n : Nat) : List D := (List.range n).map fun (k : Nat) => PyData.int (a + (k : Int) * c)
theorem rangeC_len {a c : Int} {n : Nat} : (rangeC a c n).length = n := by simp [rangeC]
theorem rangeC_get {a c : Int} {n i : Nat} {d : D} (h : (rangeC a c n)[i]? = some d) : d = .int (a + i * c) := by
  unfold rangeC at h
  rw [List.getElem?_map] at h
  obtain ⟨k, e, rfl⟩ := Option.map_eq_some_iff.mp h
  rw [List.getElem?_range (by have := (List.getElem?_eq_some_iff.mp e).1; simpa using this)] at e
  cases e; rfl
def szR (i j c : Int) : Nat := if c > 0 then (if i < j then ((j - i - 1) / c + 1).toNat else 0) else (if i > j then ((i - j - 1) / (-c) + 1).toNat else 0)
theorem szR_eq (i j c : Int) : (Builtin.Range.rangeSize i j c).toNat = szR i j c := by
  unfold szR Builtin.Range.rangeSize
  split <;> split <;> rfl
def iRg3 (fs : AF) : IF := fun ρ => (fs ρ).bind fun p => match p.1 with
  | [.fz (.int i), .fz (.int j), .fz (.int c)] => if divOk c = true then some (rangeC i c (szR i j c), p.2) else none
  | _ => none
section
variable {X : Cx} {tg : Expr} {K : PySem.W.Frag} {Z : Hp}
theorem jok_rngC {a c : Int} {n : Nat} : JOk K (Itc a c n) Z (rangeC a c n) := fun H Z' zz zh =>
  ⟨fun i hi => by rw [rangeC_len] at hi; exact hi, fun i x H' d ⟨e, y⟩ hd => ⟨e, by rw [rangeC_get hd, y]; exact .int _⟩, fun i hi => by rw [rangeC_len] at hi; exact hi⟩
theorem ei_rg3 {a b c : Expr} {fs : AF} {p pos : Pos} (hg : Gl X "range") (hm : X.mg "range" = none) (ha : EvA X [a, b, c] fs)
    (hs : starEach [a, b, c] X.env = (false, eval a X.env) :: starEach [b, c] X.env := by rfl) (hpl : (backTo pos (starEach [b, c] X.env)).any (·.1) = false := by rfl) : EvI X tg (.Call (.Name "range" p) [a, b, c] [] pos) (iRg3 fs) :=
  ⟨piImp (pi_rangeL3 hg hm ha.pa hs hpl) fun σ H R ⟨Z, ρ, xs, ρ', E, e, q⟩ => by
    obtain ⟨⟨rs1, ρ1⟩, e1, e⟩ := bs e
    refine ⟨Z, ρ, rs1, ρ1, E, e1, fun vs H1 Z1 s1 E1 o1 ra => ?_⟩
    dsimp only at e
    split at e
    · rename_i i j k
      split at e
      · rename_i hd
        cases e
        cases ra with
        | cons r1 ra =>
          cases ra with
          | cons r2 ra =>
            cases ra with
            | cons r3 ra =>
              cases ra
              cases r1 with
              | fz h1 =>
                cases r2 with
                | fz h2 =>
                  cases r3 with
                  | fz h3 =>
                    cases h1
                    cases h2
                    cases h3
                    unfold divOk at hd
                    rw [Bool.and_eq_true, decide_eq_true_eq, decide_eq_true_eq] at hd
                    refine ⟨i, j, k, rfl, hd.1, hd.2, ?_⟩
                    rw [szR_eq]
                    exact q _ H1 Z1 s1 E1 o1 jok_rngC
      · cases e
    · cases e⟩
end
/-! ### set(xs) of a list of ints -/
section
variable {P : Program} {w : World} {A : Around} {E : Value → Shared → Prop} {s : Shared}
abbrev newS (w : World) : Obj := { cls := .type "set", dict := none, data := .set #[] 0 (.fresh 0 0 (!w.params.followText "set-order")) }
set_option maxHeartbeats 3200000 in
theorem set_of_list {l : Addr} {items : Array Value} (ns : List Int) {Q : Value → Shared → Prop} (hh : A.handled = none) (hl : s.heap.IsList l items) (hit : IntsAre items.toList ns) (hb : ns.length + 1 < scanBound)
    (h : ∀ (h' : Heap) (tk c : Nat), SetR w h' s.heap.objs.size (fun j => decide (j ∈ ns)) c → c ≤ ns.length → (∀ b o, s.heap.get? b = some o → h'.get? b = some o) → Q (.ref s.heap.objs.size) { s with heap := h', toks := tk }) :
    wpAny (model P w) A (call (.type "set") [.ref l]) Q E s := by
  have hn : items.size = ns.length := by have q := IntsAre.length hit; rw [Array.length_toList] at q; exact q
  obtain ⟨c, tl, hmro⟩ := F.called_set.mro
  have a1 := F.called_set.made
  have a2 := F.called_set.sub
  refine wpAny_call (codeAny_of_tree ?_)
  show wpAny _ _ (callAny (.type "set") _) _ _ _
  refine wpAny_pure ⟨Code.quiet_builtin _ (by decide +kernel), codeAny_builtin F.entry_type_call ?_⟩
  rw [Around.under_plain (weight_type_call_type "set" [.ref l] []) rfl]
  have a3 := F.called_set.notType
  have a4 := F.called_set.canCreate
  have a5 := F.typeCall_set_1 (.ref l)
  repeat (any_goals (first | assumption | wp_step))
  refine codeAny_mono (code_set_led1 (.ref l) (E := E) (Q₁ := fun obj s₁ => obj = .ref s.heap.objs.size ∧ s₁ = { s with heap := s.heap.push (newS w) }) ⟨rfl, rfl⟩) fun r s₁ hr => ?_
  cases r with
  | error e => exact hr
  | ok fl =>
    cases fl with
    | ret obj =>
      obtain ⟨rfl, rfl⟩ := hr
      have hS : (s.heap.push (newS w)).get? s.heap.objs.size = some (newS w) := Heap.get?_push_size _ rfl
      have hT : Shared.TypeIs { s with heap := s.heap.push (newS w) } (.ref s.heap.objs.size) "set" := ⟨_, hS, rfl⟩
      have b1 := F.called_set.init.lookup
      have b2 := F.called_set.init.bind (.ref s.heap.objs.size)
      repeat (any_goals (first | assumption | wp_step))
      refine codeAny_mono (codeAny_call_builtin (R := wants (fun r s₂ => r = .none ∧ ∃ h' tk c, s₂ = { s with heap := h', toks := tk } ∧ SetR w h' s.heap.objs.size (fun j => decide (j ∈ ns)) c ∧ c ≤ ns.length ∧ (∀ b o, s.heap.get? b = some o → h'.get? b = some o)) E) F.called_set.init.plain F.entry_set_init (check_set_init_1 hT ?_)) fun r₂ s₂ hr₂ => ?_
      · obtain ⟨ol, hol, hcl, nl, hdl⟩ := hl
        obtain ⟨ocls, odict, odata, oslots⟩ := ol
        simp only at hcl hdl
        subst hcl; subst hdl
        have hol' : (s.heap.push (newS w)).get? l = some { cls := .type "list", dict := odict, data := .seq items nl, slots := oslots } := Heap.get?_push_of_some _ hol
        have c1 := F.sub_list_set
        have c2 := F.sub_list_frozenset
        have c3 : (Value.type "list" == Value.type "dict") = false := by decide
        have hl1 : (s.heap.push (newS w)).IsList l items := ⟨_, hol', rfl, nl, rfl⟩
        unfold Builtin.«set.__init__» noKeywords Builtin.Frozenset.updateFrom
        generalize hPI : pyIter = PI
        wp_walk
        subst hPI
        refine wpAny_pyIter_list hl1 (wpAny_bind (wpAny_runValue ?_))
        have hlS : l < s.heap.objs.size := Heap.lt_size hol
        have hh3 : A.in1.in1.in1.handled = none := by simp [hh]
        have hz1 : (s.heap.push (newS w)).objs.size = s.heap.objs.size + 1 := Heap.size_push ..
        have hneI : l ≠ (s.heap.push (newS w)).objs.size := by rw [hz1]; exact Nat.ne_of_lt (Nat.lt_succ_of_lt hlS)
        have hSf : s.heap.objs.size ∉ [(s.heap.push (newS w)).objs.size, l] := by
          rw [hz1]; simp only [List.mem_cons, List.mem_singleton, List.not_mem_nil, or_false, not_or]
          exact ⟨Nat.ne_of_lt (Nat.lt_succ_self _), Nat.ne_of_gt hlS⟩
        have hval : ∀ (i : Nat) (v : Value), items[i]? = some v → ∃ k t, ns[i]? = some k ∧ v = .int k t := fun i v hv => by
          have hi : i < ns.length := by rw [← hn]; exact (Array.getElem?_eq_some_iff.mp hv).1
          obtain ⟨t, e⟩ := PyProof.Rows.IntsAre.int_at hit i v (by rw [Array.getElem?_toList]; exact hv)
          exact ⟨ns[i], t, List.getElem?_eq_getElem hi, by rw [e, List.getD_eq_getElem?_getD, List.getElem?_eq_getElem hi] <;> rfl⟩
        refine set_update_ints ((Walks.list hh3 _ l hneI items).toS) s.heap.objs.size hSf ns hn hb hval (items.size - 0) 0 _ (by omega) (Nat.zero_le _) ⟨⟨_, Heap.get?_push_size _ rfl, rfl, rfl⟩, (hl1.push _)⟩ ?hS0 ?hR
        case hS0 =>
          have hget : ((s.heap.push (newS w)).push { cls := .type "list_iterator", data := .fields #[.ref l, .int 0 0] }).get? s.heap.objs.size = some (newS w) := Heap.get?_push_of_some _ hS
          exact ⟨0, Nat.le_refl 0, setR_new_at hget⟩
        case hR =>
          intro s' c' hm hc' hS'
          obtain ⟨h', g2, d', tk', os'⟩ := s'
          have eg : g2 = s.gens := hm.gens
          have ed : d' = s.drawn := hm.drawn
          have eo : os' = s.os := hm.os
          subst eg; subst ed; subst eo
          show wpAny _ _ _ _ _ _
          refine wpAny_pure ?_
          show wpAny _ _ (ret Value.none) _ _ _
          rw [hn] at hc'
          refine wpAny_pure ⟨rfl, h', tk', c', rfl, hS', hc', fun b o e => ?_⟩
          have hb0 : b < s.heap.objs.size := Heap.lt_size e
          have hb2 : b ≠ (s.heap.push (newS w)).objs.size := by rw [hz1]; exact Nat.ne_of_lt (Nat.lt_succ_of_lt hb0)
          exact hm.heap b o (by simp only [List.mem_cons, List.mem_singleton, List.not_mem_nil, or_false, not_or]; exact ⟨Nat.ne_of_lt hb0, hb2⟩) (Heap.get?_push_of_some _ (Heap.get?_push_of_some _ e))
      · cases r₂ with
        | error e => exact hr₂
        | ok fl₂ =>
          cases fl₂ with
          | ret r =>
            obtain ⟨rfl, h', tk, c', rfl, hS', hc', hk'⟩ := hr₂
            repeat (any_goals (first | assumption | wp_step))
            exact h _ _ _ hS' hc' hk'
          | _ => exact hr₂.elim
    | _ => exact hr.elim
end
end Ev


set_option Elab.async false
set_option linter.all false
set_option maxRecDepth 100000
/-! Ev21: sorted(set(x)), len(set(x)) of lists and tuples of ints -/
namespace Ev
open PySem PySem.Spec L2
open PyProof.Rows hiding St
def seqInts : D → Option (List Int)
  | .list ds => intsOf ds
  | .tuple ds => intsOf ds
  | _ => none
def sortSet2D (d : D) : Option RV := (seqInts d).bind fun is => if is.length < 64 then some (.fr (.list ((srtI is).map .int))) else none
def lenSetD (d : D) : Option RV := (seqInts d).bind fun is => if is.length ≤ 4000 then some (.fz (.int ((srtI is).length : Nat))) else none
def fOnFz (g : D → Option RV) (f : EF) : EF := fun ρ => (fFz f ρ).bind fun p => match p.1 with
  | .fz d => (g d).bind fun r => some (r, p.2)
  | _ => none
theorem srtI_nodup (l : List Int) : (srtI l).Nodup := (srtI_pw l).imp fun h e => by omega
section
variable {X : Cx} {e : Expr} {f : EF} {p p2 pos pos2 : Pos}
/-- set(x), x frozen ints: what follows sees a set of them -/
theorem set_ints {pins : List (Addr × Obj)} {σ : St} {H1 Z1 : Hp} {s1 : Shared} {v : Value} {x : V} {d : D} {is : List Int} {Q : Value → Shared → Prop} {E : Value → Shared → Prop} (hc : X.calm = true) (I1 : Inv X pins σ H1 s1) (rx : RelV x v) (hd : Dp X.K Z1 x d) (zh : Hsub Z1 H1) (ei : seqInts d = some is)
    (hb : is.length + 1 < scanBound)
    (h : ∀ (h' : Heap) (tk c : Nat), SetR X.w h' s1.heap.objs.size (fun j => decide (j ∈ is)) c → c ≤ is.length → Inv X pins σ H1 { s1 with heap := h', toks := tk } → Q (.ref s1.heap.objs.size) { s1 with heap := h', toks := tk }) :
    wpAny (model X.prog X.w) X.A (call (.type "set") [v]) Q E s1 := by
  have hh := I1.ok.hd hc
  cases hd with
  | lst hl ha =>
    have hq : SqL X.K H1 _ _ := zh.sql hl
    rw [ints_dp ha ei] at hq
    obtain ⟨its, rv, pt, hz⟩ := I1.list hq
    cases rx
    exact set_of_list is hh pt.isList (ints_of_vals rv) hb fun h' tk c R1 hcn k => h h' tk c R1 hcn (I1.kept fun b o e => k b o e)
  | tup ht ha =>
    have hq : SqT X.K H1 _ _ := zh.sqt (.inl (.inr ht))
    rw [ints_dp ha ei] at hq
    obtain ⟨its, rv, pt, hz⟩ := I1.tuple hq
    cases rx
    exact call_set_tupI is hh (show s1.heap.IsTuple _ its.toArray from pt) (ints_of_vals rv) hb fun h' tk c R1 hcn k => h h' tk c R1 hcn (I1.kept fun b o e => k b o e)
  | _ => cases ei
theorem ev_sortSet2 (hg : Gl X "sorted") (hm : X.mg "sorted" = none) (hg2 : Gl X "set") (hm2 : X.mg "set" = none) (h : EvE X e f) (hc : X.calm = true := by rfl)
    (na : starEach [e] X.env = (false, eval e X.env) :: starEach [] X.env := by rfl) : EvE X (.Call (.Name "sorted" p) [.Call (.Name "set" p2) [e] [] pos2] [] pos) (fOnFz sortSet2D f) := by
  refine ⟨⟨fun pins s σ H Q I q0 => ?_⟩⟩
  obtain ⟨Z, ρ, r, ρ', E, er, q⟩ := q0
  obtain ⟨⟨r1, ρ1⟩, e1, er⟩ := bs er
  dsimp only at er
  split at er
  · rename_i d
    obtain ⟨r2, e2, er⟩ := bs er
    cases er
    refine Call_ (ld_blt I hg hm boot_sorted (PyProof.Rows.callWith_builtin1 (PyProof.Rows.args_cons ?_ rfl) rfl rfl))
    refine Call_ (ld_blt I hg2 hm2 boot_set ?_)
    have hE := h.pe.run pins s σ H (fun v H1 => ∃ Z1, Post X.K σ ρ ρ' H Z H1 Z1 v (.fz d)) I (tE_fz ⟨Z, ρ, _, ρ', E, e1, fun v H1 Z1 P => ⟨Z1, P⟩⟩)
    refine PyProof.Rows.callWith_type1 (PyProof.Rows.args_cons (thn hE fun v s1 ⟨x, H1, I1, rx, Z1, P⟩ => PyProof.Rows.args_nil ?_) na) na rfl
    obtain ⟨is, e3, e2⟩ := bs e2
    split at e2
    · rename_i hl
      cases e2
      have hrv := P.rv
      cases hrv with
      | fz hd =>
        refine set_ints hc I1 rx hd P.env.zh e3 (by unfold scanBound; omega) fun h' tk c R1 hcn I2 => PyProof.Rows.args_nil ?_
        refine sorted_set R1 (I1.ok.hd hc) (by omega) fun s' p out c2 ns k2 g o hp hgt hi2 hs hm hln => ?_
        have en : ns = srtI is := pw_uniq hs (srtI_pw is) fun z => by rw [hm z, decide_eq_true_eq, srtI_mem]
        have hlen : (ns.map V.int).length ≤ sizeLine := by rw [List.length_map, hln, sizeLine_eq]; omega
        have hn : H1 p = none := I2.hok.fresh hp
        have J : Inv X pins σ (upd H1 p (.lst (ns.map V.int))) { ({ s1 with heap := h', toks := tk } : Shared) with heap := s'.heap, gens := s'.gens, drawn := s'.drawn, toks := s'.toks } :=
          I2.call (ch := []) (Un.laid k2 hp hn) (I2.hok.laid k2 hp ⟨hlen, out.toList, c2, vals_of_ints hi2, hgt⟩) (by rw [g]; exact I2.bare) (fun _ z => nomatch z)
        have es : s' = { s1 with heap := s'.heap, gens := s'.gens, drawn := s'.drawn, toks := s'.toks } := by
          cases s'
          cases s1
          cases o
          rfl
        rw [es]
        refine ⟨.ref p, _, J, rfl, q _ _ Z1 ?_⟩
        rw [← en]
        exact Post.trans P.stp P.ow ((Alc.newLst P.env.zh P.env.zl hn hlen (ints_dpAll ns)).post P.env)
    · cases e2
  · cases er
theorem ev_lenSet (hg : Gl X "len") (hm : X.mg "len" = none) (hg2 : Gl X "set") (hm2 : X.mg "set" = none) (h : EvE X e f) (hc : X.calm = true := by rfl)
    (na : starEach [e] X.env = (false, eval e X.env) :: starEach [] X.env := by rfl) : EvE X (.Call (.Name "len" p) [.Call (.Name "set" p2) [e] [] pos2] [] pos) (fOnFz lenSetD f) := by
  refine ⟨⟨fun pins s σ H Q I q0 => ?_⟩⟩
  obtain ⟨Z, ρ, r, ρ', E, er, q⟩ := q0
  obtain ⟨⟨r1, ρ1⟩, e1, er⟩ := bs er
  dsimp only at er
  split at er
  · rename_i d
    obtain ⟨r2, e2, er⟩ := bs er
    cases er
    refine Call_ (ld_blt I hg hm boot_len (PyProof.Rows.callWith_builtin1 (PyProof.Rows.args_cons ?_ rfl) rfl rfl))
    refine Call_ (ld_blt I hg2 hm2 boot_set ?_)
    have hE := h.pe.run pins s σ H (fun v H1 => ∃ Z1, Post X.K σ ρ ρ' H Z H1 Z1 v (.fz d)) I (tE_fz ⟨Z, ρ, _, ρ', E, e1, fun v H1 Z1 P => ⟨Z1, P⟩⟩)
    refine PyProof.Rows.callWith_type1 (PyProof.Rows.args_cons (thn hE fun v s1 ⟨x, H1, I1, rx, Z1, P⟩ => PyProof.Rows.args_nil ?_) na) na rfl
    obtain ⟨is, e3, e2⟩ := bs e2
    split at e2
    · rename_i hl
      cases e2
      have hrv := P.rv
      cases hrv with
      | fz hd =>
        refine set_ints hc I1 rx hd P.env.zh e3 (by unfold scanBound; omega) fun h' tk c R1 hcn I2 => PyProof.Rows.args_nil ?_
        obtain ⟨o, es, ep, t, ho, hex, hd2, hgd, hnd, hmm, hbd, hf, hnn, _⟩ := R1
        have hp : (es.toList.map keyOf).Perm (srtI is) := (List.perm_ext_iff_of_nodup hnd (srtI_nodup is)).mpr fun a => by
          have := hmm a
          rw [decide_eq_true_eq] at this
          rw [← this, srtI_mem]
        have hsz : es.size = (srtI is).length := by
          have := hp.length_eq
          rw [List.length_map, Array.length_toList] at this
          exact this
        exact call_len_set ho hex hd2 hf (by omega) ⟨.int ((srtI is).length : Nat), H1, I2.tok _, ⟨_, by rw [hsz]⟩, q _ H1 Z1 (Post.trans P.stp P.ow ((Alc.same P.env.zh P.env.zl (.int _)).post P.env))⟩
    · cases e2
  · cases er
end
end Ev


set_option Elab.async false
set_option linter.all false
/-! Ev22: the pure side of Ev18 .. Ev21 -/
namespace Ev
open PySem PySem.Spec L2
theorem pl_3 (ρ : Ρ) (a b c : Nat) : pl ρ [a, b, c] = ((ρ.getD a .no).plain = true ∧ (ρ.getD b .no).plain = true ∧ (ρ.getD c .no).plain = true) := by simp [pl]
theorem pl_4 (ρ : Ρ) (a b c d : Nat) : pl ρ [a, b, c, d] = ((ρ.getD a .no).plain = true ∧ (ρ.getD b .no).plain = true ∧ (ρ.getD c .no).plain = true ∧ (ρ.getD d .no).plain = true) := by simp [pl]
theorem wipe_3 (ρ : Ρ) (a b c : Nat) : wipeR ρ [a, b, c] = ((ρ.set c .no).set b .no).set a .no := rfl
theorem wipe_4 (ρ : Ρ) (a b c d : Nat) : wipeR ρ [a, b, c, d] = (((ρ.set d .no).set c .no).set b .no).set a .no := rfl
theorem unw_3 (ρ0 ρ : Ρ) (a b c : Nat) : unw ρ0 ρ [a, b, c] = ((ρ.set c (ρ0.getD c .no)).set b (ρ0.getD b .no)).set a (ρ0.getD a .no) := rfl
theorem unw_4 (ρ0 ρ : Ρ) (a b c d : Nat) : unw ρ0 ρ [a, b, c, d] = (((ρ.set d (ρ0.getD d .no)).set c (ρ0.getD c .no)).set b (ρ0.getD b .no)).set a (ρ0.getD a .no) := rfl
theorem w_revTL (ds : List D) (Q : RV → Prop) : wO (revTD (.list ds)) Q = kSz ds (Q (.fr (.list ds.reverse))) := by
  show wO (if _ then _ else _) Q = _
  rw [wO_if, wO_some]; rfl
theorem w_revTT (ds : List D) (Q : RV → Prop) : wO (revTD (.tuple ds)) Q = kSz ds (Q (.fz (.tuple ds.reverse))) := by
  show wO (if _ then _ else _) Q = _
  rw [wO_if, wO_some]; rfl
/-! item op= -/
def kAuZ (j : Nat) (k : Int) (Q : Ctl → Ρ → Prop) : RV → Ρ → Prop
  | .fz z, ρ2 => wSl ρ2 j (kMt fun ds2 => wO (ixN ds2.length k) fun n => kSz ds2 (wSl ρ2 j (kPut j ρ2 (.list (ds2.set n z)) (Q .nx))))
  | _, _ => False
theorem kAuZ_fz (j k Q z ρ2) : kAuZ j k Q (.fz z) ρ2 = wSl ρ2 j (kMt fun ds2 => wO (ixN ds2.length k) fun n => kSz ds2 (wSl ρ2 j (kPut j ρ2 (.list (ds2.set n z)) (Q .nx)))) := rfl
def kAuS (j : Nat) (g : D → D → Option RV) (fe : EF) (Q : Ctl → Ρ → Prop) : RV → Ρ → Prop
  | .fz (.int k), ρ1 => wSl ρ1 j (kMt fun ds => wO (atD ds k) fun x => wE fe ρ1 (kF fun q ρ2 => wR ρ2 q fun y => wO (g x y) fun r => kAuZ j k Q r ρ2))
  | _, _ => False
theorem kAuS_i (j g fe Q k ρ1) : kAuS j g fe Q (.fz (.int k)) ρ1 = wSl ρ1 j (kMt fun ds => wO (atD ds k) fun x => wE fe ρ1 (kF fun q ρ2 => wR ρ2 q fun y => wO (g x y) fun r => kAuZ j k Q r ρ2)) := rfl
theorem wS_augS (ρ : Ρ) (Q : Ctl → Ρ → Prop) (j g fi fe) : wS (sAugS j g fi fe) ρ Q = wSl ρ j (kMt fun _ => wE fi ρ (kF (kAuS j g fe Q))) := by
  show wO (Option.bind _ _) _ = _
  rw [wO_bind, wO_mutAt]
  refine congrArg _ (congrArg _ ?_)
  funext _
  rw [wO_bind, ← wE_F]
  show wO _ _ = wO _ _
  congr 1; funext p
  obtain ⟨r, ρ1⟩ := p
  cases r with
  | fz d =>
    cases d with
    | int k =>
      rw [kAuS_i]
      show wO (Option.bind _ _) _ = _
      rw [wO_bind, wO_mutAt]
      refine congrArg _ (congrArg _ ?_)
      funext ds
      rw [wO_bind]
      congr 1; funext x
      rw [wO_bind, ← wE_F]
      show wO _ _ = wO _ _
      congr 1; funext q
      rw [wO_bind, wO_rs]
      congr 1; funext y
      rw [wO_bind]
      congr 1; funext r
      cases r with
      | fz z =>
        rw [kAuZ_fz]
        show wO (Option.bind _ _) _ = _
        rw [wO_bind, wO_mutAt]
        refine congrArg _ (congrArg _ ?_)
        funext ds2
        rw [wO_bind]
        congr 1; funext n
        rw [wO_if, wO_bind, wO_putAt]
        simp only [wO_some]
        rfl
      | _ => exact wO_none _
    | _ => exact wO_none _
  | _ => exact wO_none _
/-! list += -/
def kEx (i : Nat) (Q : Ctl → Ρ → Prop) : RV → Ρ → Prop
  | .fr (.list es), ρ1 => wSl ρ1 i (kMt fun ds => kSz (ds ++ es) (wSl ρ1 i (kPut i ρ1 (.list (ds ++ es)) (Q .nx))))
  | .bw j, ρ1 => wSl ρ1 j (kMt fun es => wSl ρ1 i (kMt fun ds => kSz (ds ++ es) (wSl ρ1 i (kPut i ρ1 (.list (ds ++ es)) (Q .nx)))))
  | _, _ => False
theorem kEx_fr (i Q es ρ1) : kEx i Q (.fr (.list es)) ρ1 = wSl ρ1 i (kMt fun ds => kSz (ds ++ es) (wSl ρ1 i (kPut i ρ1 (.list (ds ++ es)) (Q .nx)))) := rfl
theorem kEx_bw (i Q j ρ1) : kEx i Q (.bw j) ρ1 = wSl ρ1 j (kMt fun es => wSl ρ1 i (kMt fun ds => kSz (ds ++ es) (wSl ρ1 i (kPut i ρ1 (.list (ds ++ es)) (Q .nx))))) := rfl
theorem wS_ext (ρ : Ρ) (Q : Ctl → Ρ → Prop) (i f) : wS (sExt i f) ρ Q = wSl ρ i (kMt fun _ => wE f ρ (kEx i Q)) := by
  show wO (Option.bind _ _) _ = _
  rw [wO_bind, wO_mutAt]
  refine congrArg _ (congrArg _ ?_)
  funext _
  rw [wO_bind]
  show wO _ _ = wO _ _
  congr 1; funext p
  obtain ⟨r, ρ1⟩ := p
  have key : ∀ es : List D, wO ((mutAt ρ1 i).bind fun ds => if (ds ++ es).length ≤ sizeLine then (putAt ρ1 i (.list (ds ++ es))).bind fun ρ2 => some (Ctl.nx, ρ2) else none) (fun p => Q p.1 p.2) = wSl ρ1 i (kMt fun ds => kSz (ds ++ es) (wSl ρ1 i (kPut i ρ1 (.list (ds ++ es)) (Q .nx)))) := fun es => by
    rw [wO_bind, wO_mutAt]
    refine congrArg _ (congrArg _ ?_)
    funext ds
    rw [wO_if, wO_bind, wO_putAt]
    simp only [wO_some]
    rfl
  cases r with
  | fz d => exact wO_none _
  | fr d =>
    cases d with
    | list es => exact key es
    | _ => exact wO_none _
  | bw j =>
    rw [kEx_bw]
    show wO (Option.bind _ _) _ = _
    rw [wO_bind, wO_mutAt]
    refine congrArg _ (congrArg _ ?_)
    funext es
    exact key es
/-! sets -/
def kOn (g : D → Option RV) (Q : RV → Ρ → Prop) : RV → Ρ → Prop
  | .fz d, ρ => wO (g d) fun r => Q r ρ
  | _, _ => False
theorem kOn_fz (g Q d ρ) : kOn g Q (.fz d) ρ = wO (g d) fun r => Q r ρ := rfl
theorem wE_onFz (ρ : Ρ) (Q : RV → Ρ → Prop) (g f) : wE (fOnFz g f) ρ Q = wE f ρ (kF (kOn g Q)) := by
  rw [← wE_F]
  show wO (Option.bind _ _) _ = _
  rw [wO_bind]
  show wO _ _ = wO _ _
  congr 1; funext p
  obtain ⟨r, ρ1⟩ := p
  cases r with
  | fz d =>
    show wO (Option.bind _ _) _ = _
    rw [wO_bind]
    simp only [wO_some]; rfl
  | _ => exact wO_none _
theorem w_ss2T (is : List Int) (Q : RV → Prop) : wO (sortSet2D (.tuple (is.map .int))) Q = (is.length < 64 ∧ Q (.fr (.list ((srtI is).map .int)))) := by
  show wO (Option.bind (intsOf _) _) Q = _
  rw [intsOf_map]
  show wO (if _ then _ else _) Q = _
  rw [wO_if, wO_some]
theorem w_ss2L (is : List Int) (Q : RV → Prop) : wO (sortSet2D (.list (is.map .int))) Q = (is.length < 64 ∧ Q (.fr (.list ((srtI is).map .int)))) := by
  show wO (Option.bind (intsOf _) _) Q = _
  rw [intsOf_map]
  show wO (if _ then _ else _) Q = _
  rw [wO_if, wO_some]
theorem w_ss2TN (l : List Nat) (Q : RV → Prop) : wO (sortSet2D (.tuple (l.map nI))) Q = (l.length < 64 ∧ Q (.fr (.list ((srtN l).map nI)))) := by
  rw [nI_map, w_ss2T, List.length_map, srtN_map]
theorem w_ss2LN (l : List Nat) (Q : RV → Prop) : wO (sortSet2D (.list (l.map nI))) Q = (l.length < 64 ∧ Q (.fr (.list ((srtN l).map nI)))) := by
  rw [nI_map, w_ss2L, List.length_map, srtN_map]
theorem w_lsT (is : List Int) (Q : RV → Prop) : wO (lenSetD (.tuple (is.map .int))) Q = (is.length ≤ 4000 ∧ Q (.fz (.int ((srtI is).length : Nat)))) := by
  show wO (Option.bind (intsOf _) _) Q = _
  rw [intsOf_map]
  show wO (if _ then _ else _) Q = _
  rw [wO_if, wO_some]
theorem w_lsL (is : List Int) (Q : RV → Prop) : wO (lenSetD (.list (is.map .int))) Q = (is.length ≤ 4000 ∧ Q (.fz (.int ((srtI is).length : Nat)))) := by
  show wO (Option.bind (intsOf _) _) Q = _
  rw [intsOf_map]
  show wO (if _ then _ else _) Q = _
  rw [wO_if, wO_some]
/-! sorted -/
def leI (a b : Int) : Bool := decide (a ≤ b)
def sortI (l : List Int) : List Int := gsort leI l
theorem dle_int (a b : Int) : dle (.int a) (.int b) = leI a b := by
  show (!W.dataLt (.int b) (.int a)) = decide (a ≤ b)
  rw [W.dataLt_int]
  by_cases h : a ≤ b
  · rw [decide_eq_true h, decide_eq_false (by omega)]; rfl
  · rw [decide_eq_false h, decide_eq_true (by omega)]; rfl
theorem okSort_of {α : Type} {e : α → D} {l : List α} (h1 : ∀ a b, W.alike (e a) (e b) = true) (h2 : (∀ a, ∃ x r, e a = .tuple (x :: r)) ∨ (∀ a, e a ≠ .none ∧ ∀ xs, e a ≠ .tuple xs)) (h3 : ∀ a, (e a).depth ≤ 60) (h4 : szB l.length) : okSort (l.map e) = true := by
  unfold okSort
  rw [Bool.and_eq_true, Bool.and_eq_true, Bool.and_eq_true]
  refine ⟨⟨⟨?_, ?_⟩, ?_⟩, ?_⟩
  · rw [List.all_eq_true]
    intro d hd
    rw [List.all_eq_true]
    intro d' hd'
    obtain ⟨a, _, rfl⟩ := List.mem_map.mp hd
    obtain ⟨b, _, rfl⟩ := List.mem_map.mp hd'
    exact h1 a b
  · unfold sortable
    rw [Bool.or_eq_true]
    rcases h2 with h | h
    · refine .inl (List.all_eq_true.mpr fun d hd => ?_)
      obtain ⟨a, _, rfl⟩ := List.mem_map.mp hd
      obtain ⟨x, r, e1⟩ := h a
      rw [e1]
    · refine .inr (List.all_eq_true.mpr fun d hd => ?_)
      obtain ⟨a, _, rfl⟩ := List.mem_map.mp hd
      obtain ⟨g1, g2⟩ := h a
      generalize e a = d at *
      cases d <;> first | rfl | exact absurd rfl g1 | exact absurd rfl (g2 _)
  · rw [List.all_eq_true]
    intro d hd
    obtain ⟨a, _, rfl⟩ := List.mem_map.mp hd
    exact decide_eq_true (h3 a)
  · rw [List.length_map]; exact decide_eq_true h4
theorem w_srt {α : Type} {e : α → D} {le : α → α → Bool} (h0 : ∀ a b, dle (e a) (e b) = le a b) (h1 : ∀ a b, W.alike (e a) (e b) = true) (h2 : (∀ a, ∃ x r, e a = .tuple (x :: r)) ∨ (∀ a, e a ≠ .none ∧ ∀ xs, e a ≠ .tuple xs)) (h3 : ∀ a, (e a).depth ≤ 60) (l : List α) (Q : RV → Prop) :
    wO (sortedD [.list (l.map e)]) Q = (szB l.length ∧ Q (.fr (.list ((gsort le l).map e)))) := by
  show wO (if _ then _ else _) Q = _
  rw [wO_if, wO_some, gsort_map (le := dle) (le' := le) e l fun a _ b _ => h0 a b]
  refine propext ⟨fun h => ⟨?_, h.2⟩, fun h => ⟨okSort_of h1 h2 h3 h.1, h.2⟩⟩
  have := h.1
  unfold okSort at this
  rw [Bool.and_eq_true, decide_eq_true_eq, List.length_map] at this
  exact this.2
theorem w_srtI (l : List Int) (Q : RV → Prop) : wO (sortedD [.list (l.map .int)]) Q = (szB l.length ∧ Q (.fr (.list ((sortI l).map .int)))) :=
  w_srt (e := PyData.int) dle_int (fun _ _ => rfl) (.inr fun _ => ⟨nofun, nofun⟩) (fun _ => Nat.zero_le _) l Q
def leN (a b : Nat) : Bool := decide (a ≤ b)
def sortN (l : List Nat) : List Nat := gsort leN l
theorem dle_nat (a b : Nat) : dle (nI a) (nI b) = leN a b := by
  rw [nI_ap, nI_ap, dle_int]
  unfold leI leN
  congr 1; apply propext; omega
theorem w_srtN (l : List Nat) (Q : RV → Prop) : wO (sortedD [.list (l.map nI)]) Q = (szB l.length ∧ Q (.fr (.list ((sortN l).map nI)))) :=
  w_srt (e := nI) dle_nat (fun _ _ => rfl) (.inr fun _ => ⟨nofun, nofun⟩) (fun _ => Nat.zero_le _) l Q
theorem w_srtT {α : Type} {e : α → D} {le : α → α → Bool} (h0 : ∀ a b, dle (e a) (e b) = le a b) (h1 : ∀ a b, W.alike (e a) (e b) = true) (h2 : (∀ a, ∃ x r, e a = .tuple (x :: r)) ∨ (∀ a, e a ≠ .none ∧ ∀ xs, e a ≠ .tuple xs)) (h3 : ∀ a, (e a).depth ≤ 60) (l : List α) (Q : RV → Prop) :
    wO (sortedD [.tuple (l.map e)]) Q = (szB l.length ∧ Q (.fr (.list ((gsort le l).map e)))) := w_srt h0 h1 h2 h3 l Q
theorem w_srtTI (l : List Int) (Q : RV → Prop) : wO (sortedD [.tuple (l.map .int)]) Q = (szB l.length ∧ Q (.fr (.list ((sortI l).map .int)))) := w_srtI l Q
theorem w_srtTN (l : List Nat) (Q : RV → Prop) : wO (sortedD [.tuple (l.map nI)]) Q = (szB l.length ∧ Q (.fr (.list ((sortN l).map nI)))) := w_srtN l Q
/-- pairs of ints -/
def eP (p : Int × Int) : D := .tuple [.int p.1, .int p.2]
def leP (p q : Int × Int) : Bool := decide (p.1 < q.1 ∨ (p.1 = q.1 ∧ p.2 ≤ q.2))
theorem dle_pair (p q : Int × Int) : dle (eP p) (eP q) = leP p q := by
  show (!W.dataLt (eP q) (eP p)) = _
  unfold eP leP
  rw [W.dataLt_ii]
  by_cases h : p.1 < q.1 ∨ (p.1 = q.1 ∧ p.2 ≤ q.2)
  · rw [decide_eq_true h, decide_eq_false (by omega)]; rfl
  · rw [decide_eq_false h, decide_eq_true (by omega)]; rfl
theorem w_srtP (l : List (Int × Int)) (Q : RV → Prop) : wO (sortedD [.list (l.map eP)]) Q = (szB l.length ∧ Q (.fr (.list ((gsort leP l).map eP)))) :=
  w_srt (e := eP) dle_pair (fun _ _ => rfl) (.inl fun _ => ⟨_, _, rfl⟩) (fun _ => by show 1 + 0 ≤ 60; decide) l Q
/-! range with a step -/
def kG3 (Q : List D → Ρ → Prop) : List RV → Ρ → Prop
  | [.fz (.int i), .fz (.int j), .fz (.int c)], ρ => divOk c = true ∧ Q (rangeC i c (szR i j c)) ρ
  | _, _ => False
theorem kG3_i (Q i j c ρ) : kG3 Q [.fz (.int i), .fz (.int j), .fz (.int c)] ρ = (divOk c = true ∧ Q (rangeC i c (szR i j c)) ρ) := rfl
theorem wI_rg3 (ρ : Ρ) (Q : List D → Ρ → Prop) (fs) : wI (iRg3 fs) ρ Q = wA fs ρ (kG3 Q) := by
  show wO (Option.bind _ _) _ = _
  rw [wO_bind]
  show wO _ _ = wO _ _
  congr 1; funext p
  obtain ⟨rs1, ρ1⟩ := p
  dsimp only
  split
  · rw [wO_if, wO_some, kG3_i]
  · rename_i h
    rw [wO_none]
    unfold kG3
    split
    · exact (h _ _ _ rfl).elim
    · rfl
/-! two clauses -/
def wC2 (g : GF) (t : TF) (it1 : IF) (g1 : GF) (t1 : TF) (e : EF) (vs vs1 : List Nat) (ds : List D) (ρ : Ρ) (Q : List D → Ρ → Prop) : Prop := wO (compL2 g t it1 g1 t1 e vs vs1 ds ρ) fun p => Q p.1 p.2
theorem wE_comp2 (ρ : Ρ) (Q : RV → Ρ → Prop) (vs vs1 it g t it1 g1 t1 e) : wE (fComp2 vs vs1 it g t it1 g1 t1 e) ρ Q = wI it ρ fun ds ρ1 => pl ρ1 vs ∧ wC2 g t it1 g1 t1 e vs vs1 ds (wipeR ρ1 vs) fun out ρ2 => kSz out (Q (.fr (.list out)) (unw ρ1 ρ2 vs)) := by
  show wO (Option.bind _ _) _ = _
  rw [wO_bind]
  show wO _ _ = wO _ _
  congr 1; funext p
  rw [wO_if]
  show (_ ∧ wO (Option.bind _ _) _) = _
  rw [wO_bind]
  show _ = (_ ∧ wO _ _)
  congr 2; funext q
  rw [wO_if, wO_some]; rfl
theorem wC2_nil (ρ : Ρ) (Q : List D → Ρ → Prop) (g t it1 g1 t1 e vs vs1) : wC2 g t it1 g1 t1 e vs vs1 [] ρ Q = Q [] ρ := wO_some ..
theorem wC2_cons (ρ : Ρ) (Q : List D → Ρ → Prop) (g t it1 g1 t1 e vs vs1 d ds) : wC2 g t it1 g1 t1 e vs vs1 (d :: ds) ρ Q = wG g d ρ fun ρ1 => wT t ρ1 fun b ρ2 => (b = true → wI it1 ρ2 fun xs ρ3 => wC g1 t1 e vs1 xs (wipeR ρ3 vs1) fun ys ρ4 => wC2 g t it1 g1 t1 e vs vs1 ds (wipeR ρ4 vs) fun zs ρ5 => Q (ys ++ zs) ρ5) ∧
    (b = false → wC2 g t it1 g1 t1 e vs vs1 ds (wipeR ρ2 vs) Q) := by
  show wO (Option.bind _ _) _ = _
  rw [wO_bind]
  show wO _ _ = wO _ _
  congr 1; funext ρ1
  rw [wO_bind]
  show wO _ _ = wO _ _
  congr 1; funext p
  rw [wO_cond]
  congr 1
  rw [wO_bind]
  show (_ → wO _ _) = (_ → wO _ _)
  congr 2; funext x
  rw [wO_bind]
  show wO _ _ = wO _ _
  congr 1; funext z
  rw [wO_bind]
  show wO _ _ = wO _ _
  congr 1; funext w
  exact wO_some ..
theorem wI.mono {f : IF} {ρ : Ρ} {Q Q' : List D → Ρ → Prop} (h : wI f ρ Q) (i : ∀ a b, Q a b → Q' a b) : wI f ρ Q' := wO.mono h fun _ => i _ _
theorem wC.mono {g : GF} {t : TF} {e : EF} {vs : List Nat} {ds : List D} {ρ : Ρ} {Q Q' : List D → Ρ → Prop} (h : wC g t e vs ds ρ Q) (i : ∀ a b, Q a b → Q' a b) : wC g t e vs ds ρ Q' := wO.mono h fun _ => i _ _
/-- no state: the kept ones' rows, one behind the other -/
theorem wC2_map {α : Type} {g g1 : GF} {t t1 : TF} {it1 : IF} {e : EF} {vs vs1 : List Nat} (m : α → D) (p : α → Bool) (f : α → List D) (l : List α) {ρ : Ρ} {Q : List D → Ρ → Prop}
    (hs : ∀ x, x ∈ l → wG g (m x) ρ fun ρ1 => wT t ρ1 fun b ρ2 => (b = true → p x = true ∧ wI it1 ρ2 fun xs ρ3 => wC g1 t1 e vs1 xs (wipeR ρ3 vs1) fun ys ρ4 => ys = f x ∧ wipeR ρ4 vs = ρ) ∧ (b = false → p x = false ∧ wipeR ρ2 vs = ρ))
    (h : Q ((l.filter p).flatMap f) ρ) : wC2 g t it1 g1 t1 e vs vs1 (l.map m) ρ Q := by
  induction l generalizing Q with
  | nil => rw [List.map_nil, wC2_nil]; exact h
  | cons x l ih =>
    rw [List.map_cons, wC2_cons]
    have ih := fun {Q} => ih (Q := Q) (fun y hy => hs y (List.mem_cons_of_mem _ hy))
    refine wO.mono (hs x (List.mem_cons_self ..)) fun ρ1 h1 => wO.mono h1 fun q h2 => ⟨fun z => ?_, fun z => ?_⟩
    · obtain ⟨hp, h2⟩ := h2.1 z
      rw [List.filter_cons_of_pos hp, List.flatMap_cons] at h
      refine wI.mono h2 fun xs ρ3 h3 => wC.mono h3 fun ys ρ4 ⟨e1, e2⟩ => ?_
      rw [e2, e1]
      exact ih h
    · obtain ⟨hp, h2⟩ := h2.2 z
      rw [List.filter_cons_of_neg (by rw [hp]; decide)] at h
      rw [h2]; exact ih h
theorem wC2_each {α : Type} {g g1 : GF} {t1 : TF} {it1 : IF} {e : EF} {vs vs1 : List Nat} (m : α → D) (f : α → List D) (l : List α) {ρ : Ρ} {Q : List D → Ρ → Prop}
    (hs : ∀ x, x ∈ l → wG g (m x) ρ fun ρ1 => wI it1 ρ1 fun xs ρ3 => wC g1 t1 e vs1 xs (wipeR ρ3 vs1) fun ys ρ4 => ys = f x ∧ wipeR ρ4 vs = ρ) (h : Q (l.flatMap f) ρ) : wC2 g fYes it1 g1 t1 e vs vs1 (l.map m) ρ Q := by
  refine wC2_map m (fun _ => true) f l (fun x hx => wO.mono (hs x hx) fun ρ1 h1 => ?_) (by rw [List.filter_eq_self.mpr fun _ _ => rfl]; exact h)
  rw [wT_yes]
  exact ⟨fun _ => ⟨rfl, h1⟩, fun z => nomatch z⟩
/-! shuffles -/
theorem perm_pop {α : Type} {l : List α} {i : Nat} (h : i < l.length) : (l.eraseIdx i ++ [l[i]]).Perm l := by
  refine List.perm_append_comm.trans ?_
  show (l[i] :: l.eraseIdx i).Perm l
  rw [List.eraseIdx_eq_take_drop_succ]
  have : l = l.take i ++ l[i] :: l.drop (i + 1) := by rw [← List.drop_eq_getElem_cons h, List.take_append_drop]
  conv => rhs; rw [this]
  exact List.perm_middle.symm
theorem seqIx {r : Int} {n : Nat} (h0 : 0 ≤ r) (h1 : r < n) : seqIndex? r n = some r.toNat := seqIndex_of h0 h1
end Ev


set_option Elab.async false
set_option linter.all false
/-! Ev24: all orders of n, as the laws make them -/
namespace Ev
open PySem PySem.Spec L2
def B_orders : SF := (sSeq (sSet 1 (fLst (aCons (fTup aNil) aNil)))
  (sSeq (sFor (iRg1 (aCons (fV 0) aNil)) (gN 2)
  (sSeq (sSet 3 (fLst aNil))
  (sSeq (sFor (iSeq (fV 1)) (gN 4)
  (sSet 3 (fBin addD (fB 3) (fComp [5] (iRg1 (aCons (fV 0) aNil)) (gN 5) (fTst (fBin (inD true) (fB 5) (fB 4))) (fBin addD (fB 4) (fTup (aCons (fV 5) aNil)))))))
  (sSet 1 (fV 3)))))
  (sRet (fM 1))))
def F_orders : Fn := fnOf 1 6 B_orders
def extR (n : Nat) (row : List Nat) : List (List Nat) := ((List.range n).filter fun k => decide (k ∉ row)).map fun k => row ++ [k]
def rowsL (n : Nat) : Nat → List (List Nat)
  | 0 => [[]]
  | k + 1 => (rowsL n k).flatMap (extR n)
theorem extR_len (n : Nat) (row : List Nat) : (extR n row).length ≤ n := by
  unfold extR
  rw [List.length_map]
  exact Nat.le_trans (List.length_filter_le ..) (by rw [List.length_range]; exact Nat.le_refl _)
theorem flat_len (n : Nat) : ∀ l : List (List Nat), (l.flatMap (extR n)).length ≤ l.length * n
  | [] => by simp
  | r :: l => by
    rw [List.flatMap_cons, List.length_append, List.length_cons, Nat.add_mul, Nat.one_mul]
    have := extR_len n r
    have := flat_len n l
    omega
theorem rowsL_len (n : Nat) : ∀ k, (rowsL n k).length ≤ n ^ k
  | 0 => by simp [rowsL]
  | k + 1 => by
    show ((rowsL n k).flatMap (extR n)).length ≤ _
    rw [Nat.pow_succ]
    exact Nat.le_trans (flat_len n _) (Nat.mul_le_mul_right n (rowsL_len n k))
theorem rowsL_mem (n : Nat) : ∀ (k : Nat) (row : List Nat), row ∈ rowsL n k ↔ row.length = k ∧ row.Nodup ∧ ∀ x, x ∈ row → x < n
  | 0, row => by
    simp only [rowsL, List.mem_singleton, List.length_eq_zero_iff]
    exact ⟨fun h => by subst h; simp, fun h => h.1⟩
  | k + 1, row => by
    show row ∈ (rowsL n k).flatMap (extR n) ↔ _
    rw [List.mem_flatMap]
    constructor
    · rintro ⟨r, hr, hm⟩
      obtain ⟨h1, h2, h3⟩ := (rowsL_mem n k r).mp hr
      obtain ⟨x, hx, rfl⟩ := List.mem_map.mp hm
      obtain ⟨hx1, hx2⟩ := List.mem_filter.mp hx
      have hx1 := List.mem_range.mp hx1
      have hx2 : x ∉ r := by simpa using hx2
      refine ⟨by rw [List.length_append, h1]; rfl, ?_, fun y hy => ?_⟩
      · rw [List.nodup_append]
        refine ⟨h2, by simp, fun a ha b hb => ?_⟩
        rw [List.mem_singleton] at hb
        subst hb
        exact fun e => hx2 (e ▸ ha)
      · rcases List.mem_append.mp hy with hy | hy
        · exact h3 y hy
        · rw [List.mem_singleton.mp hy]; exact hx1
    · rintro ⟨h1, h2, h3⟩
      have hne : row ≠ [] := by intro z; rw [z] at h1; simp at h1
      have hs := List.dropLast_concat_getLast hne
      generalize row.dropLast = r at hs
      generalize row.getLast hne = x at hs
      subst hs
      rw [List.nodup_append] at h2
      refine ⟨r, (rowsL_mem n k r).mpr ⟨by rw [List.length_append] at h1; simpa using h1, h2.1, fun y hy => h3 y (List.mem_append_left _ hy)⟩, ?_⟩
      refine List.mem_map.mpr ⟨x, List.mem_filter.mpr ⟨List.mem_range.mpr (h3 x (by simp)), ?_⟩, rfl⟩
      have : x ∉ r := fun hx => h2.2.2 x hx x (by simp) rfl
      simpa using this
theorem rowsL_nodup (n : Nat) : ∀ k, (rowsL n k).Nodup
  | 0 => by simp [rowsL]
  | k + 1 => by
    show ((rowsL n k).flatMap (extR n)).Nodup
    have key : ∀ l : List (List Nat), l.Nodup → (l.flatMap (extR n)).Nodup := by
      intro l
      induction l with
      | nil => intro _; simp
      | cons r l ih =>
        intro h
        obtain ⟨h1, h2⟩ := List.nodup_cons.mp h
        rw [List.flatMap_cons, List.nodup_append]
        refine ⟨?_, ih h2, fun a ha b hb => ?_⟩
        · unfold extR
          exact (List.nodup_range.filter _).map _ fun x y hxy e => hxy (by simpa using e)
        · intro e
          subst e
          obtain ⟨x, _, rfl⟩ := List.mem_map.mp ha
          obtain ⟨r', hr', hm⟩ := List.mem_flatMap.mp hb
          obtain ⟨y, _, e⟩ := List.mem_map.mp hm
          have : r' = r := (List.append_inj' e rfl).1
          exact h1 (this ▸ hr')
    exact key _ (rowsL_nodup n k)
theorem pow6 {n k : Nat} (hn : n ≤ 7) (hk : k ≤ 7) : n ^ k ≤ 823543 := Nat.le_trans (Nat.pow_le_pow_left hn k) (Nat.le_trans (Nat.pow_le_pow_right (by decide) hk) (by decide))
theorem orders_spec {n : Nat} (hn : n ≤ 7) {Q : RV × List D → Prop} (h1 : Q (.fr (.list ((rowsL n n).map bxN)), [])) (h2 : Q (.fz (.list ((rowsL n n).map bxN)), [])) : wO (F_orders [.val (.int n)]) Q := by
  refine wO_fn rfl ?_
  unfold B_orders
  simp only [↓wO_some, ↓wO_none, ↓wSl_0, ↓wSl_s, ↓wP_0, ↓wP_s, ↓kW_no, ↓kW_val, ↓kW_own, ↓kW_ov, ↓wO_setSlot, ↓wE_C, ↓kB_val, ↓kB_own, ↓kB_io, ↓wE_B, ↓kV_val, ↓kV_own, ↓wE_V, ↓kM_val, ↓kM_own, ↓wE_M, ↓kF_fz, ↓kF_bw, ↓kF_fr, ↓wE_F, ↓wR_fz, ↓kCt_val, ↓kCt_own, ↓kCt_io, ↓wR_bw, ↓wE_bin, ↓wE_un, ↓wA_nil, ↓kA_fz, ↓kA_bw, ↓kA_fr, ↓wA_cons, ↓wRs_nil, ↓wRs_cons, ↓wE_args, ↓wZ_nil, ↓wZ_cons, ↓kSz_0, ↓kSz_1, ↓kSz_2, ↓kSz_3, ↓kSz_4, ↓kSz_5, ↓kSz_6, ↓kSz_7, ↓kSz_8, ↓wE_tup, ↓wE_lst, ↓kT_bool, ↓wT_tst, ↓wT_and, ↓wT_or, ↓wT_not, ↓wT_yes, ↓wE_bool, ↓wE_if, ↓kAs_val, ↓kAs_own, ↓kAs_io, ↓wAs_nil, ↓wAs_fz, ↓wAs_bw, ↓kOut_nil, ↓kOut_nilr, ↓kPut_own, ↓kPut_io, ↓kOut_one, ↓kOut_oner, ↓wE_call, ↓w_add, ↓w_sub, ↓w_mul, ↓w_mulI, ↓w_fdiv, ↓w_mod, ↓w_neg, ↓w_lt, ↓w_le, ↓w_gt, ↓w_ge, ↓w_eq, ↓w_ne, ↓w_abs, ↓w_min2, ↓w_max2, ↓w_int, ↓w_intb, ↓w_pow, ↓w_lenL, ↓w_lenT, ↓w_ixL, ↓w_ixT, ↓w_tupL, ↓w_tupT, ↓w_listL, ↓w_listT, ↓kS_nx, ↓kS_bk, ↓kS_rt, ↓wS_nx, ↓wS_bk, ↓wS_seq, ↓kSt_fz, ↓kSt_fr, ↓wS_set, ↓kR_fz, ↓kR_fr, ↓wS_ret, ↓wS_retN, ↓wS_drop, ↓wS_if, ↓kAg_val, ↓wS_aug, ↓wG_N, ↓wG_T, ↓wGs_nil, ↓wGs_cons, ↓kIt_L, ↓kIt_T, ↓wI_seq, ↓kG1_i, ↓wI_rg1, ↓kG2_i, ↓wI_rg2, ↓wS_for, ↓wS_while, ↓kAz_fz, ↓wS_asg, ↓kL_nx, ↓kL_bk, ↓kL_rt, ↓wE_comp, ↓wU_nil, ↓wU_io, ↓wU_val, ↓kFn_fz, ↓kFn_fr, ↓kFn_nx, ↓wM_append, ↓wM_pop, ↓wM_rev, ↓wM_ins, ↓wM_popAt, ↓kMt_own, ↓kMt_io, ↓wE_mut, ↓wE_mut0, ↓kSi_i, ↓kSo_fz, ↓wS_store, ↓wE_meth, ↓w_addLL, ↓w_addTT, ↓w_mulLI, ↓w_mulTI, ↓w_inTI, ↓w_inLI, ↓w_inTN, ↓w_inLN, ↓w_sumTI, ↓w_sumLI, ↓w_sumTN, ↓w_sumLN, ↓w_cntTI, ↓w_cntTN, ↓w_cntLI, ↓w_cntLN, ↓kTR1_i, ↓kLR1_i, ↓wE_tupRg1, ↓wE_listRg1, ↓kTR2b_i, ↓kTR2_i, ↓kLR2b_i, ↓kLR2_i, ↓w_isN_none, ↓w_isN_bool, ↓w_isN_int, ↓w_isN_str, ↓w_isN_tuple, ↓w_notN_none, ↓w_notN_bool, ↓w_notN_int, ↓w_notN_str, ↓w_notN_tuple, ↓w_eqb, ↓w_eqLN, ↓w_neLN, ↓w_eqTN, ↓w_neTN, ↓w_neb, ↓w_isB, ↓w_notB, ↓w_revL, ↓w_iadd, ↓kW_oz, ↓kPar_2, ↓wS_par, ↓kCh2_b, ↓kCh_fz, ↓wE_chain, ↓w_gcd, ↓kSS_fz, ↓wE_sortSet, ↓w_sortSetI, ↓w_sortSetN, ↓wX_no, ↓kOI_i, ↓wX_yes, ↓wE_sl, ↓w_slT, ↓w_slL, ↓ats0, ↓ats1, ↓ats2, ↓ats3, ↓w_eqOI, ↓w_neOI, ↓w_eqOO, ↓w_isOI, ↓w_notOI, ↓w_revTL, ↓w_revTT, ↓kAuZ_fz, ↓kAuS_i, ↓wS_augS, ↓kEx_fr, ↓kEx_bw, ↓wS_ext, ↓kOn_fz, ↓wE_onFz, ↓w_ss2T, ↓w_ss2L, ↓w_ss2TN, ↓w_ss2LN, ↓w_lsT, ↓w_lsL, ↓w_srtI, ↓w_srtN, ↓w_srtTI, ↓w_srtTN, ↓w_srtP, ↓kG3_i, ↓wI_rg3, ↓wE_comp2, pl_1, pl_2, wipe_1, wipe_2, unw_1, unw_2, List.getD_cons_zero, List.getD_cons_succ, List.set_cons_zero, List.set_cons_succ, List.cons_append, List.nil_append, List.replicate_succ, List.replicate_zero, Nat.reduceSub, Nat.reduceAdd, Nat.reduceLT, plain_no, plain_val, plain_ov, Int.natCast_zero, Int.ofNat_zero, Int.cast_ofNat_Int, decide_eq_true_eq, decide_eq_false_iff_not, Bool.not_eq_true', Bool.not_eq_false', Bool.not_true, Bool.not_false, if_true, if_false, true_and, and_true, forall_const, decide_true, decide_false, Int.toNat_natCast, Int.reduceEq, Int.reduceNe, Int.reduceLT, Int.reduceLE, Int.zero_add, implies_true, true_implies, not_true_eq_false, not_false_eq_true, false_implies, false_and, and_false, reduceCtorEq, ite_true, ite_false, eq_self, List.length_cons, List.length_nil, oz_own, oz_val, pl_3, pl_4, wipe_3, wipe_4, unw_3, unw_4]
  refine wL_range (fun k ρ => ∃ (b : Bool) (o2 : Option D) (o3 : Option (Bool × D)) (o4 : Option D), ρ = [.val (.int n), oz (some (b, .list ((rowsL n k).map bxN))), ov o2, oz o3, ov o4, .no]) ⟨true, none, none, none, rfl⟩ ?_ ?_
  · rintro k _ hk ⟨b, o2, o3, o4, rfl⟩
    have hlen : (rowsL n k).length ≤ 823543 := Nat.le_trans (rowsL_len n k) (pow6 hn (by omega))
    have hmem := fun row => rowsL_mem n k row
    have hnext : rowsL n (k + 1) = (rowsL n k).flatMap (extR n) := rfl
    generalize rowsL n k = rs at *
    have go : ∀ (a1 : Slot) , wL (gN 4) (sSet 3 (fBin addD (fB 3) (fComp [5] (iRg1 (aCons (fV 0) aNil)) (gN 5) (fTst (fBin (inD true) (fB 5) (fB 4))) (fBin addD (fB 4) (fTup (aCons (fV 5) aNil)))))) (rs.map bxN) [.val (.int n), .val (.list (rs.map bxN)), .val (.int k), .own (.list []), ov o4, .no]
        (kS (sSet 1 (fV 3)) (kL (fun ρ => ∃ (b : Bool) (o2 : Option D) (o3 : Option (Bool × D)) (o4 : Option D), ρ = [.val (.int n), oz (some (b, .list ((rowsL n (k + 1)).map bxN))), ov o2, oz o3, ov o4, .no]) (kS (sRet (fM 1)) (kFn [.val (.int n)] Q)))) := by
      intro _
      refine wL_list bxN rs (fun j ρ => ∃ (o4 : Option D), ρ = [.val (.int n), .val (.list (rs.map bxN)), .val (.int k), .own (.list (((rs.take j).flatMap (extR n)).map bxN)), ov o4, .no]) ⟨o4, rfl⟩ ?_ ?_
      · rintro j row _ hj ⟨o4, rfl⟩
        have hrow : row ∈ rs := List.mem_of_getElem? hj
        have hrl : row.length ≤ 7 := by rw [((hmem row).mp hrow).1]; omega
        have htk : rs.take (j + 1) = rs.take j ++ [row] := by rw [List.take_add_one, hj]; rfl
        have hacc : ((rs.take j).flatMap (extR n)).length ≤ 823543 * 7 := by
          refine Nat.le_trans (flat_len n _) (Nat.mul_le_mul (Nat.le_trans ?_ hlen) hn)
          rw [List.length_take]; omega
        simp only [↓wO_some, ↓wO_none, ↓wSl_0, ↓wSl_s, ↓wP_0, ↓wP_s, ↓kW_no, ↓kW_val, ↓kW_own, ↓kW_ov, ↓wO_setSlot, ↓wE_C, ↓kB_val, ↓kB_own, ↓kB_io, ↓wE_B, ↓kV_val, ↓kV_own, ↓wE_V, ↓kM_val, ↓kM_own, ↓wE_M, ↓kF_fz, ↓kF_bw, ↓kF_fr, ↓wE_F, ↓wR_fz, ↓kCt_val, ↓kCt_own, ↓kCt_io, ↓wR_bw, ↓wE_bin, ↓wE_un, ↓wA_nil, ↓kA_fz, ↓kA_bw, ↓kA_fr, ↓wA_cons, ↓wRs_nil, ↓wRs_cons, ↓wE_args, ↓wZ_nil, ↓wZ_cons, ↓kSz_0, ↓kSz_1, ↓kSz_2, ↓kSz_3, ↓kSz_4, ↓kSz_5, ↓kSz_6, ↓kSz_7, ↓kSz_8, ↓wE_tup, ↓wE_lst, ↓kT_bool, ↓wT_tst, ↓wT_and, ↓wT_or, ↓wT_not, ↓wT_yes, ↓wE_bool, ↓wE_if, ↓kAs_val, ↓kAs_own, ↓kAs_io, ↓wAs_nil, ↓wAs_fz, ↓wAs_bw, ↓kOut_nil, ↓kOut_nilr, ↓kPut_own, ↓kPut_io, ↓kOut_one, ↓kOut_oner, ↓wE_call, ↓w_add, ↓w_sub, ↓w_mul, ↓w_mulI, ↓w_fdiv, ↓w_mod, ↓w_neg, ↓w_lt, ↓w_le, ↓w_gt, ↓w_ge, ↓w_eq, ↓w_ne, ↓w_abs, ↓w_min2, ↓w_max2, ↓w_int, ↓w_intb, ↓w_pow, ↓w_lenL, ↓w_lenT, ↓w_ixL, ↓w_ixT, ↓w_tupL, ↓w_tupT, ↓w_listL, ↓w_listT, ↓kS_nx, ↓kS_bk, ↓kS_rt, ↓wS_nx, ↓wS_bk, ↓wS_seq, ↓kSt_fz, ↓kSt_fr, ↓wS_set, ↓kR_fz, ↓kR_fr, ↓wS_ret, ↓wS_retN, ↓wS_drop, ↓wS_if, ↓kAg_val, ↓wS_aug, ↓wG_N, ↓wG_T, ↓wGs_nil, ↓wGs_cons, ↓kIt_L, ↓kIt_T, ↓wI_seq, ↓kG1_i, ↓wI_rg1, ↓kG2_i, ↓wI_rg2, ↓wS_for, ↓wS_while, ↓kAz_fz, ↓wS_asg, ↓kL_nx, ↓kL_bk, ↓kL_rt, ↓wE_comp, ↓wU_nil, ↓wU_io, ↓wU_val, ↓kFn_fz, ↓kFn_fr, ↓kFn_nx, ↓wM_append, ↓wM_pop, ↓wM_rev, ↓wM_ins, ↓wM_popAt, ↓kMt_own, ↓kMt_io, ↓wE_mut, ↓wE_mut0, ↓kSi_i, ↓kSo_fz, ↓wS_store, ↓wE_meth, ↓w_addLL, ↓w_addTT, ↓w_mulLI, ↓w_mulTI, ↓w_inTI, ↓w_inLI, ↓w_inTN, ↓w_inLN, ↓w_sumTI, ↓w_sumLI, ↓w_sumTN, ↓w_sumLN, ↓w_cntTI, ↓w_cntTN, ↓w_cntLI, ↓w_cntLN, ↓kTR1_i, ↓kLR1_i, ↓wE_tupRg1, ↓wE_listRg1, ↓kTR2b_i, ↓kTR2_i, ↓kLR2b_i, ↓kLR2_i, ↓w_isN_none, ↓w_isN_bool, ↓w_isN_int, ↓w_isN_str, ↓w_isN_tuple, ↓w_notN_none, ↓w_notN_bool, ↓w_notN_int, ↓w_notN_str, ↓w_notN_tuple, ↓w_eqb, ↓w_eqLN, ↓w_neLN, ↓w_eqTN, ↓w_neTN, ↓w_neb, ↓w_isB, ↓w_notB, ↓w_revL, ↓w_iadd, ↓kW_oz, ↓kPar_2, ↓wS_par, ↓kCh2_b, ↓kCh_fz, ↓wE_chain, ↓w_gcd, ↓kSS_fz, ↓wE_sortSet, ↓w_sortSetI, ↓w_sortSetN, ↓wX_no, ↓kOI_i, ↓wX_yes, ↓wE_sl, ↓w_slT, ↓w_slL, ↓ats0, ↓ats1, ↓ats2, ↓ats3, ↓w_eqOI, ↓w_neOI, ↓w_eqOO, ↓w_isOI, ↓w_notOI, ↓w_revTL, ↓w_revTT, ↓kAuZ_fz, ↓kAuS_i, ↓wS_augS, ↓kEx_fr, ↓kEx_bw, ↓wS_ext, ↓kOn_fz, ↓wE_onFz, ↓w_ss2T, ↓w_ss2L, ↓w_ss2TN, ↓w_ss2LN, ↓w_lsT, ↓w_lsL, ↓w_srtI, ↓w_srtN, ↓w_srtTI, ↓w_srtTN, ↓w_srtP, ↓kG3_i, ↓wI_rg3, ↓wE_comp2, pl_1, pl_2, wipe_1, wipe_2, unw_1, unw_2, List.getD_cons_zero, List.getD_cons_succ, List.set_cons_zero, List.set_cons_succ, List.cons_append, List.nil_append, List.replicate_succ, List.replicate_zero, Nat.reduceSub, Nat.reduceAdd, Nat.reduceLT, plain_no, plain_val, plain_ov, Int.natCast_zero, Int.ofNat_zero, Int.cast_ofNat_Int, decide_eq_true_eq, decide_eq_false_iff_not, Bool.not_eq_true', Bool.not_eq_false', Bool.not_true, Bool.not_false, if_true, if_false, true_and, and_true, forall_const, decide_true, decide_false, Int.toNat_natCast, Int.reduceEq, Int.reduceNe, Int.reduceLT, Int.reduceLE, Int.zero_add, implies_true, true_implies, not_true_eq_false, not_false_eq_true, false_implies, false_and, and_false, reduceCtorEq, ite_true, ite_false, eq_self, List.length_cons, List.length_nil, oz_own, oz_val, pl_3, pl_4, wipe_3, wipe_4, unw_3, unw_4, rangeD_N]
        refine wC_map nI (fun x => decide (x ∉ row)) (fun x => bxN (row ++ [x])) (List.range n) (fun x hx => ?_) ?_
        · have e1 : row.map nI ++ [PyData.int (x : Int)] = (row ++ [x]).map nI := by rw [List.map_append]; rfl
          simp only [↓wO_some, ↓wO_none, ↓wSl_0, ↓wSl_s, ↓wP_0, ↓wP_s, ↓kW_no, ↓kW_val, ↓kW_own, ↓kW_ov, ↓wO_setSlot, ↓wE_C, ↓kB_val, ↓kB_own, ↓kB_io, ↓wE_B, ↓kV_val, ↓kV_own, ↓wE_V, ↓kM_val, ↓kM_own, ↓wE_M, ↓kF_fz, ↓kF_bw, ↓kF_fr, ↓wE_F, ↓wR_fz, ↓kCt_val, ↓kCt_own, ↓kCt_io, ↓wR_bw, ↓wE_bin, ↓wE_un, ↓wA_nil, ↓kA_fz, ↓kA_bw, ↓kA_fr, ↓wA_cons, ↓wRs_nil, ↓wRs_cons, ↓wE_args, ↓wZ_nil, ↓wZ_cons, ↓kSz_0, ↓kSz_1, ↓kSz_2, ↓kSz_3, ↓kSz_4, ↓kSz_5, ↓kSz_6, ↓kSz_7, ↓kSz_8, ↓wE_tup, ↓wE_lst, ↓kT_bool, ↓wT_tst, ↓wT_and, ↓wT_or, ↓wT_not, ↓wT_yes, ↓wE_bool, ↓wE_if, ↓kAs_val, ↓kAs_own, ↓kAs_io, ↓wAs_nil, ↓wAs_fz, ↓wAs_bw, ↓kOut_nil, ↓kOut_nilr, ↓kPut_own, ↓kPut_io, ↓kOut_one, ↓kOut_oner, ↓wE_call, ↓w_add, ↓w_sub, ↓w_mul, ↓w_mulI, ↓w_fdiv, ↓w_mod, ↓w_neg, ↓w_lt, ↓w_le, ↓w_gt, ↓w_ge, ↓w_eq, ↓w_ne, ↓w_abs, ↓w_min2, ↓w_max2, ↓w_int, ↓w_intb, ↓w_pow, ↓w_lenL, ↓w_lenT, ↓w_ixL, ↓w_ixT, ↓w_tupL, ↓w_tupT, ↓w_listL, ↓w_listT, ↓kS_nx, ↓kS_bk, ↓kS_rt, ↓wS_nx, ↓wS_bk, ↓wS_seq, ↓kSt_fz, ↓kSt_fr, ↓wS_set, ↓kR_fz, ↓kR_fr, ↓wS_ret, ↓wS_retN, ↓wS_drop, ↓wS_if, ↓kAg_val, ↓wS_aug, ↓wG_N, ↓wG_T, ↓wGs_nil, ↓wGs_cons, ↓kIt_L, ↓kIt_T, ↓wI_seq, ↓kG1_i, ↓wI_rg1, ↓kG2_i, ↓wI_rg2, ↓wS_for, ↓wS_while, ↓kAz_fz, ↓wS_asg, ↓kL_nx, ↓kL_bk, ↓kL_rt, ↓wE_comp, ↓wU_nil, ↓wU_io, ↓wU_val, ↓kFn_fz, ↓kFn_fr, ↓kFn_nx, ↓wM_append, ↓wM_pop, ↓wM_rev, ↓wM_ins, ↓wM_popAt, ↓kMt_own, ↓kMt_io, ↓wE_mut, ↓wE_mut0, ↓kSi_i, ↓kSo_fz, ↓wS_store, ↓wE_meth, ↓w_addLL, ↓w_addTT, ↓w_mulLI, ↓w_mulTI, ↓w_inTI, ↓w_inLI, ↓w_inTN, ↓w_inLN, ↓w_sumTI, ↓w_sumLI, ↓w_sumTN, ↓w_sumLN, ↓w_cntTI, ↓w_cntTN, ↓w_cntLI, ↓w_cntLN, ↓kTR1_i, ↓kLR1_i, ↓wE_tupRg1, ↓wE_listRg1, ↓kTR2b_i, ↓kTR2_i, ↓kLR2b_i, ↓kLR2_i, ↓w_isN_none, ↓w_isN_bool, ↓w_isN_int, ↓w_isN_str, ↓w_isN_tuple, ↓w_notN_none, ↓w_notN_bool, ↓w_notN_int, ↓w_notN_str, ↓w_notN_tuple, ↓w_eqb, ↓w_eqLN, ↓w_neLN, ↓w_eqTN, ↓w_neTN, ↓w_neb, ↓w_isB, ↓w_notB, ↓w_revL, ↓w_iadd, ↓kW_oz, ↓kPar_2, ↓wS_par, ↓kCh2_b, ↓kCh_fz, ↓wE_chain, ↓w_gcd, ↓kSS_fz, ↓wE_sortSet, ↓w_sortSetI, ↓w_sortSetN, ↓wX_no, ↓kOI_i, ↓wX_yes, ↓wE_sl, ↓w_slT, ↓w_slL, ↓ats0, ↓ats1, ↓ats2, ↓ats3, ↓w_eqOI, ↓w_neOI, ↓w_eqOO, ↓w_isOI, ↓w_notOI, ↓w_revTL, ↓w_revTT, ↓kAuZ_fz, ↓kAuS_i, ↓wS_augS, ↓kEx_fr, ↓kEx_bw, ↓wS_ext, ↓kOn_fz, ↓wE_onFz, ↓w_ss2T, ↓w_ss2L, ↓w_ss2TN, ↓w_ss2LN, ↓w_lsT, ↓w_lsL, ↓w_srtI, ↓w_srtN, ↓w_srtTI, ↓w_srtTN, ↓w_srtP, ↓kG3_i, ↓wI_rg3, ↓wE_comp2, pl_1, pl_2, wipe_1, wipe_2, unw_1, unw_2, List.getD_cons_zero, List.getD_cons_succ, List.set_cons_zero, List.set_cons_succ, List.cons_append, List.nil_append, List.replicate_succ, List.replicate_zero, Nat.reduceSub, Nat.reduceAdd, Nat.reduceLT, plain_no, plain_val, plain_ov, Int.natCast_zero, Int.ofNat_zero, Int.cast_ofNat_Int, decide_eq_true_eq, decide_eq_false_iff_not, Bool.not_eq_true', Bool.not_eq_false', Bool.not_true, Bool.not_false, if_true, if_false, true_and, and_true, forall_const, decide_true, decide_false, Int.toNat_natCast, Int.reduceEq, Int.reduceNe, Int.reduceLT, Int.reduceLE, Int.zero_add, implies_true, true_implies, not_true_eq_false, not_false_eq_true, false_implies, false_and, and_false, reduceCtorEq, ite_true, ite_false, eq_self, List.length_cons, List.length_nil, oz_own, oz_val, pl_3, pl_4, wipe_3, wipe_4, unw_3, unw_4, nI_ap, Bool.true_bne, Bool.not_eq_true', decide_not, List.length_map, e1]
          exact ⟨fun h => ⟨h, szB_of (by omega)⟩, fun h => h⟩
        · have hz : ((List.range n).filter fun x => decide (x ∉ row)).length ≤ 7 := filter_le (by rw [List.length_range]; exact hn)
          refine ⟨szM (by omega), ?_⟩
          simp only [↓wO_some, ↓wO_none, ↓wSl_0, ↓wSl_s, ↓wP_0, ↓wP_s, ↓kW_no, ↓kW_val, ↓kW_own, ↓kW_ov, ↓wO_setSlot, ↓wE_C, ↓kB_val, ↓kB_own, ↓kB_io, ↓wE_B, ↓kV_val, ↓kV_own, ↓wE_V, ↓kM_val, ↓kM_own, ↓wE_M, ↓kF_fz, ↓kF_bw, ↓kF_fr, ↓wE_F, ↓wR_fz, ↓kCt_val, ↓kCt_own, ↓kCt_io, ↓wR_bw, ↓wE_bin, ↓wE_un, ↓wA_nil, ↓kA_fz, ↓kA_bw, ↓kA_fr, ↓wA_cons, ↓wRs_nil, ↓wRs_cons, ↓wE_args, ↓wZ_nil, ↓wZ_cons, ↓kSz_0, ↓kSz_1, ↓kSz_2, ↓kSz_3, ↓kSz_4, ↓kSz_5, ↓kSz_6, ↓kSz_7, ↓kSz_8, ↓wE_tup, ↓wE_lst, ↓kT_bool, ↓wT_tst, ↓wT_and, ↓wT_or, ↓wT_not, ↓wT_yes, ↓wE_bool, ↓wE_if, ↓kAs_val, ↓kAs_own, ↓kAs_io, ↓wAs_nil, ↓wAs_fz, ↓wAs_bw, ↓kOut_nil, ↓kOut_nilr, ↓kPut_own, ↓kPut_io, ↓kOut_one, ↓kOut_oner, ↓wE_call, ↓w_add, ↓w_sub, ↓w_mul, ↓w_mulI, ↓w_fdiv, ↓w_mod, ↓w_neg, ↓w_lt, ↓w_le, ↓w_gt, ↓w_ge, ↓w_eq, ↓w_ne, ↓w_abs, ↓w_min2, ↓w_max2, ↓w_int, ↓w_intb, ↓w_pow, ↓w_lenL, ↓w_lenT, ↓w_ixL, ↓w_ixT, ↓w_tupL, ↓w_tupT, ↓w_listL, ↓w_listT, ↓kS_nx, ↓kS_bk, ↓kS_rt, ↓wS_nx, ↓wS_bk, ↓wS_seq, ↓kSt_fz, ↓kSt_fr, ↓wS_set, ↓kR_fz, ↓kR_fr, ↓wS_ret, ↓wS_retN, ↓wS_drop, ↓wS_if, ↓kAg_val, ↓wS_aug, ↓wG_N, ↓wG_T, ↓wGs_nil, ↓wGs_cons, ↓kIt_L, ↓kIt_T, ↓wI_seq, ↓kG1_i, ↓wI_rg1, ↓kG2_i, ↓wI_rg2, ↓wS_for, ↓wS_while, ↓kAz_fz, ↓wS_asg, ↓kL_nx, ↓kL_bk, ↓kL_rt, ↓wE_comp, ↓wU_nil, ↓wU_io, ↓wU_val, ↓kFn_fz, ↓kFn_fr, ↓kFn_nx, ↓wM_append, ↓wM_pop, ↓wM_rev, ↓wM_ins, ↓wM_popAt, ↓kMt_own, ↓kMt_io, ↓wE_mut, ↓wE_mut0, ↓kSi_i, ↓kSo_fz, ↓wS_store, ↓wE_meth, ↓w_addLL, ↓w_addTT, ↓w_mulLI, ↓w_mulTI, ↓w_inTI, ↓w_inLI, ↓w_inTN, ↓w_inLN, ↓w_sumTI, ↓w_sumLI, ↓w_sumTN, ↓w_sumLN, ↓w_cntTI, ↓w_cntTN, ↓w_cntLI, ↓w_cntLN, ↓kTR1_i, ↓kLR1_i, ↓wE_tupRg1, ↓wE_listRg1, ↓kTR2b_i, ↓kTR2_i, ↓kLR2b_i, ↓kLR2_i, ↓w_isN_none, ↓w_isN_bool, ↓w_isN_int, ↓w_isN_str, ↓w_isN_tuple, ↓w_notN_none, ↓w_notN_bool, ↓w_notN_int, ↓w_notN_str, ↓w_notN_tuple, ↓w_eqb, ↓w_eqLN, ↓w_neLN, ↓w_eqTN, ↓w_neTN, ↓w_neb, ↓w_isB, ↓w_notB, ↓w_revL, ↓w_iadd, ↓kW_oz, ↓kPar_2, ↓wS_par, ↓kCh2_b, ↓kCh_fz, ↓wE_chain, ↓w_gcd, ↓kSS_fz, ↓wE_sortSet, ↓w_sortSetI, ↓w_sortSetN, ↓wX_no, ↓kOI_i, ↓wX_yes, ↓wE_sl, ↓w_slT, ↓w_slL, ↓ats0, ↓ats1, ↓ats2, ↓ats3, ↓w_eqOI, ↓w_neOI, ↓w_eqOO, ↓w_isOI, ↓w_notOI, ↓w_revTL, ↓w_revTT, ↓kAuZ_fz, ↓kAuS_i, ↓wS_augS, ↓kEx_fr, ↓kEx_bw, ↓wS_ext, ↓kOn_fz, ↓wE_onFz, ↓w_ss2T, ↓w_ss2L, ↓w_ss2TN, ↓w_ss2LN, ↓w_lsT, ↓w_lsL, ↓w_srtI, ↓w_srtN, ↓w_srtTI, ↓w_srtTN, ↓w_srtP, ↓kG3_i, ↓wI_rg3, ↓wE_comp2, pl_1, pl_2, wipe_1, wipe_2, unw_1, unw_2, List.getD_cons_zero, List.getD_cons_succ, List.set_cons_zero, List.set_cons_succ, List.cons_append, List.nil_append, List.replicate_succ, List.replicate_zero, Nat.reduceSub, Nat.reduceAdd, Nat.reduceLT, plain_no, plain_val, plain_ov, Int.natCast_zero, Int.ofNat_zero, Int.cast_ofNat_Int, decide_eq_true_eq, decide_eq_false_iff_not, Bool.not_eq_true', Bool.not_eq_false', Bool.not_true, Bool.not_false, if_true, if_false, true_and, and_true, forall_const, decide_true, decide_false, Int.toNat_natCast, Int.reduceEq, Int.reduceNe, Int.reduceLT, Int.reduceLE, Int.zero_add, implies_true, true_implies, not_true_eq_false, not_false_eq_true, false_implies, false_and, and_false, reduceCtorEq, ite_true, ite_false, eq_self, List.length_cons, List.length_nil, oz_own, oz_val, pl_3, pl_4, wipe_3, wipe_4, unw_3, unw_4, List.length_map]
          refine ⟨szB_of (by omega), some (bxN row), ?_⟩
          have e2 : ((List.range n).filter fun x => decide (x ∉ row)).map (fun x => bxN (row ++ [x])) = (extR n row).map bxN := by unfold extR; rw [List.map_map]; rfl
          rw [htk, List.flatMap_append, List.map_append, e2, List.flatMap_singleton]; rfl
      · rintro _ ⟨o4, rfl⟩
        rw [List.take_length, ← hnext]
        simp only [↓wO_some, ↓wO_none, ↓wSl_0, ↓wSl_s, ↓wP_0, ↓wP_s, ↓kW_no, ↓kW_val, ↓kW_own, ↓kW_ov, ↓wO_setSlot, ↓wE_C, ↓kB_val, ↓kB_own, ↓kB_io, ↓wE_B, ↓kV_val, ↓kV_own, ↓wE_V, ↓kM_val, ↓kM_own, ↓wE_M, ↓kF_fz, ↓kF_bw, ↓kF_fr, ↓wE_F, ↓wR_fz, ↓kCt_val, ↓kCt_own, ↓kCt_io, ↓wR_bw, ↓wE_bin, ↓wE_un, ↓wA_nil, ↓kA_fz, ↓kA_bw, ↓kA_fr, ↓wA_cons, ↓wRs_nil, ↓wRs_cons, ↓wE_args, ↓wZ_nil, ↓wZ_cons, ↓kSz_0, ↓kSz_1, ↓kSz_2, ↓kSz_3, ↓kSz_4, ↓kSz_5, ↓kSz_6, ↓kSz_7, ↓kSz_8, ↓wE_tup, ↓wE_lst, ↓kT_bool, ↓wT_tst, ↓wT_and, ↓wT_or, ↓wT_not, ↓wT_yes, ↓wE_bool, ↓wE_if, ↓kAs_val, ↓kAs_own, ↓kAs_io, ↓wAs_nil, ↓wAs_fz, ↓wAs_bw, ↓kOut_nil, ↓kOut_nilr, ↓kPut_own, ↓kPut_io, ↓kOut_one, ↓kOut_oner, ↓wE_call, ↓w_add, ↓w_sub, ↓w_mul, ↓w_mulI, ↓w_fdiv, ↓w_mod, ↓w_neg, ↓w_lt, ↓w_le, ↓w_gt, ↓w_ge, ↓w_eq, ↓w_ne, ↓w_abs, ↓w_min2, ↓w_max2, ↓w_int, ↓w_intb, ↓w_pow, ↓w_lenL, ↓w_lenT, ↓w_ixL, ↓w_ixT, ↓w_tupL, ↓w_tupT, ↓w_listL, ↓w_listT, ↓kS_nx, ↓kS_bk, ↓kS_rt, ↓wS_nx, ↓wS_bk, ↓wS_seq, ↓kSt_fz, ↓kSt_fr, ↓wS_set, ↓kR_fz, ↓kR_fr, ↓wS_ret, ↓wS_retN, ↓wS_drop, ↓wS_if, ↓kAg_val, ↓wS_aug, ↓wG_N, ↓wG_T, ↓wGs_nil, ↓wGs_cons, ↓kIt_L, ↓kIt_T, ↓wI_seq, ↓kG1_i, ↓wI_rg1, ↓kG2_i, ↓wI_rg2, ↓wS_for, ↓wS_while, ↓kAz_fz, ↓wS_asg, ↓kL_nx, ↓kL_bk, ↓kL_rt, ↓wE_comp, ↓wU_nil, ↓wU_io, ↓wU_val, ↓kFn_fz, ↓kFn_fr, ↓kFn_nx, ↓wM_append, ↓wM_pop, ↓wM_rev, ↓wM_ins, ↓wM_popAt, ↓kMt_own, ↓kMt_io, ↓wE_mut, ↓wE_mut0, ↓kSi_i, ↓kSo_fz, ↓wS_store, ↓wE_meth, ↓w_addLL, ↓w_addTT, ↓w_mulLI, ↓w_mulTI, ↓w_inTI, ↓w_inLI, ↓w_inTN, ↓w_inLN, ↓w_sumTI, ↓w_sumLI, ↓w_sumTN, ↓w_sumLN, ↓w_cntTI, ↓w_cntTN, ↓w_cntLI, ↓w_cntLN, ↓kTR1_i, ↓kLR1_i, ↓wE_tupRg1, ↓wE_listRg1, ↓kTR2b_i, ↓kTR2_i, ↓kLR2b_i, ↓kLR2_i, ↓w_isN_none, ↓w_isN_bool, ↓w_isN_int, ↓w_isN_str, ↓w_isN_tuple, ↓w_notN_none, ↓w_notN_bool, ↓w_notN_int, ↓w_notN_str, ↓w_notN_tuple, ↓w_eqb, ↓w_eqLN, ↓w_neLN, ↓w_eqTN, ↓w_neTN, ↓w_neb, ↓w_isB, ↓w_notB, ↓w_revL, ↓w_iadd, ↓kW_oz, ↓kPar_2, ↓wS_par, ↓kCh2_b, ↓kCh_fz, ↓wE_chain, ↓w_gcd, ↓kSS_fz, ↓wE_sortSet, ↓w_sortSetI, ↓w_sortSetN, ↓wX_no, ↓kOI_i, ↓wX_yes, ↓wE_sl, ↓w_slT, ↓w_slL, ↓ats0, ↓ats1, ↓ats2, ↓ats3, ↓w_eqOI, ↓w_neOI, ↓w_eqOO, ↓w_isOI, ↓w_notOI, ↓w_revTL, ↓w_revTT, ↓kAuZ_fz, ↓kAuS_i, ↓wS_augS, ↓kEx_fr, ↓kEx_bw, ↓wS_ext, ↓kOn_fz, ↓wE_onFz, ↓w_ss2T, ↓w_ss2L, ↓w_ss2TN, ↓w_ss2LN, ↓w_lsT, ↓w_lsL, ↓w_srtI, ↓w_srtN, ↓w_srtTI, ↓w_srtTN, ↓w_srtP, ↓kG3_i, ↓wI_rg3, ↓wE_comp2, pl_1, pl_2, wipe_1, wipe_2, unw_1, unw_2, List.getD_cons_zero, List.getD_cons_succ, List.set_cons_zero, List.set_cons_succ, List.cons_append, List.nil_append, List.replicate_succ, List.replicate_zero, Nat.reduceSub, Nat.reduceAdd, Nat.reduceLT, plain_no, plain_val, plain_ov, Int.natCast_zero, Int.ofNat_zero, Int.cast_ofNat_Int, decide_eq_true_eq, decide_eq_false_iff_not, Bool.not_eq_true', Bool.not_eq_false', Bool.not_true, Bool.not_false, if_true, if_false, true_and, and_true, forall_const, decide_true, decide_false, Int.toNat_natCast, Int.reduceEq, Int.reduceNe, Int.reduceLT, Int.reduceLE, Int.zero_add, implies_true, true_implies, not_true_eq_false, not_false_eq_true, false_implies, false_and, and_false, reduceCtorEq, ite_true, ite_false, eq_self, List.length_cons, List.length_nil, oz_own, oz_val, pl_3, pl_4, wipe_3, wipe_4, unw_3, unw_4]
        exact ⟨false, some _, some (false, _), o4, rfl⟩
    cases b <;>
    · simp only [↓wO_some, ↓wO_none, ↓wSl_0, ↓wSl_s, ↓wP_0, ↓wP_s, ↓kW_no, ↓kW_val, ↓kW_own, ↓kW_ov, ↓wO_setSlot, ↓wE_C, ↓kB_val, ↓kB_own, ↓kB_io, ↓wE_B, ↓kV_val, ↓kV_own, ↓wE_V, ↓kM_val, ↓kM_own, ↓wE_M, ↓kF_fz, ↓kF_bw, ↓kF_fr, ↓wE_F, ↓wR_fz, ↓kCt_val, ↓kCt_own, ↓kCt_io, ↓wR_bw, ↓wE_bin, ↓wE_un, ↓wA_nil, ↓kA_fz, ↓kA_bw, ↓kA_fr, ↓wA_cons, ↓wRs_nil, ↓wRs_cons, ↓wE_args, ↓wZ_nil, ↓wZ_cons, ↓kSz_0, ↓kSz_1, ↓kSz_2, ↓kSz_3, ↓kSz_4, ↓kSz_5, ↓kSz_6, ↓kSz_7, ↓kSz_8, ↓wE_tup, ↓wE_lst, ↓kT_bool, ↓wT_tst, ↓wT_and, ↓wT_or, ↓wT_not, ↓wT_yes, ↓wE_bool, ↓wE_if, ↓kAs_val, ↓kAs_own, ↓kAs_io, ↓wAs_nil, ↓wAs_fz, ↓wAs_bw, ↓kOut_nil, ↓kOut_nilr, ↓kPut_own, ↓kPut_io, ↓kOut_one, ↓kOut_oner, ↓wE_call, ↓w_add, ↓w_sub, ↓w_mul, ↓w_mulI, ↓w_fdiv, ↓w_mod, ↓w_neg, ↓w_lt, ↓w_le, ↓w_gt, ↓w_ge, ↓w_eq, ↓w_ne, ↓w_abs, ↓w_min2, ↓w_max2, ↓w_int, ↓w_intb, ↓w_pow, ↓w_lenL, ↓w_lenT, ↓w_ixL, ↓w_ixT, ↓w_tupL, ↓w_tupT, ↓w_listL, ↓w_listT, ↓kS_nx, ↓kS_bk, ↓kS_rt, ↓wS_nx, ↓wS_bk, ↓wS_seq, ↓kSt_fz, ↓kSt_fr, ↓wS_set, ↓kR_fz, ↓kR_fr, ↓wS_ret, ↓wS_retN, ↓wS_drop, ↓wS_if, ↓kAg_val, ↓wS_aug, ↓wG_N, ↓wG_T, ↓wGs_nil, ↓wGs_cons, ↓kIt_L, ↓kIt_T, ↓wI_seq, ↓kG1_i, ↓wI_rg1, ↓kG2_i, ↓wI_rg2, ↓wS_for, ↓wS_while, ↓kAz_fz, ↓wS_asg, ↓kL_nx, ↓kL_bk, ↓kL_rt, ↓wE_comp, ↓wU_nil, ↓wU_io, ↓wU_val, ↓kFn_fz, ↓kFn_fr, ↓kFn_nx, ↓wM_append, ↓wM_pop, ↓wM_rev, ↓wM_ins, ↓wM_popAt, ↓kMt_own, ↓kMt_io, ↓wE_mut, ↓wE_mut0, ↓kSi_i, ↓kSo_fz, ↓wS_store, ↓wE_meth, ↓w_addLL, ↓w_addTT, ↓w_mulLI, ↓w_mulTI, ↓w_inTI, ↓w_inLI, ↓w_inTN, ↓w_inLN, ↓w_sumTI, ↓w_sumLI, ↓w_sumTN, ↓w_sumLN, ↓w_cntTI, ↓w_cntTN, ↓w_cntLI, ↓w_cntLN, ↓kTR1_i, ↓kLR1_i, ↓wE_tupRg1, ↓wE_listRg1, ↓kTR2b_i, ↓kTR2_i, ↓kLR2b_i, ↓kLR2_i, ↓w_isN_none, ↓w_isN_bool, ↓w_isN_int, ↓w_isN_str, ↓w_isN_tuple, ↓w_notN_none, ↓w_notN_bool, ↓w_notN_int, ↓w_notN_str, ↓w_notN_tuple, ↓w_eqb, ↓w_eqLN, ↓w_neLN, ↓w_eqTN, ↓w_neTN, ↓w_neb, ↓w_isB, ↓w_notB, ↓w_revL, ↓w_iadd, ↓kW_oz, ↓kPar_2, ↓wS_par, ↓kCh2_b, ↓kCh_fz, ↓wE_chain, ↓w_gcd, ↓kSS_fz, ↓wE_sortSet, ↓w_sortSetI, ↓w_sortSetN, ↓wX_no, ↓kOI_i, ↓wX_yes, ↓wE_sl, ↓w_slT, ↓w_slL, ↓ats0, ↓ats1, ↓ats2, ↓ats3, ↓w_eqOI, ↓w_neOI, ↓w_eqOO, ↓w_isOI, ↓w_notOI, ↓w_revTL, ↓w_revTT, ↓kAuZ_fz, ↓kAuS_i, ↓wS_augS, ↓kEx_fr, ↓kEx_bw, ↓wS_ext, ↓kOn_fz, ↓wE_onFz, ↓w_ss2T, ↓w_ss2L, ↓w_ss2TN, ↓w_ss2LN, ↓w_lsT, ↓w_lsL, ↓w_srtI, ↓w_srtN, ↓w_srtTI, ↓w_srtTN, ↓w_srtP, ↓kG3_i, ↓wI_rg3, ↓wE_comp2, pl_1, pl_2, wipe_1, wipe_2, unw_1, unw_2, List.getD_cons_zero, List.getD_cons_succ, List.set_cons_zero, List.set_cons_succ, List.cons_append, List.nil_append, List.replicate_succ, List.replicate_zero, Nat.reduceSub, Nat.reduceAdd, Nat.reduceLT, plain_no, plain_val, plain_ov, Int.natCast_zero, Int.ofNat_zero, Int.cast_ofNat_Int, decide_eq_true_eq, decide_eq_false_iff_not, Bool.not_eq_true', Bool.not_eq_false', Bool.not_true, Bool.not_false, if_true, if_false, true_and, and_true, forall_const, decide_true, decide_false, Int.toNat_natCast, Int.reduceEq, Int.reduceNe, Int.reduceLT, Int.reduceLE, Int.zero_add, implies_true, true_implies, not_true_eq_false, not_false_eq_true, false_implies, false_and, and_false, reduceCtorEq, ite_true, ite_false, eq_self, List.length_cons, List.length_nil, oz_own, oz_val, pl_3, pl_4, wipe_3, wipe_4, unw_3, unw_4]
      exact go .no
  · rintro _ ⟨b, o2, o3, o4, rfl⟩
    cases b
    · simp only [↓wO_some, ↓wO_none, ↓wSl_0, ↓wSl_s, ↓wP_0, ↓wP_s, ↓kW_no, ↓kW_val, ↓kW_own, ↓kW_ov, ↓wO_setSlot, ↓wE_C, ↓kB_val, ↓kB_own, ↓kB_io, ↓wE_B, ↓kV_val, ↓kV_own, ↓wE_V, ↓kM_val, ↓kM_own, ↓wE_M, ↓kF_fz, ↓kF_bw, ↓kF_fr, ↓wE_F, ↓wR_fz, ↓kCt_val, ↓kCt_own, ↓kCt_io, ↓wR_bw, ↓wE_bin, ↓wE_un, ↓wA_nil, ↓kA_fz, ↓kA_bw, ↓kA_fr, ↓wA_cons, ↓wRs_nil, ↓wRs_cons, ↓wE_args, ↓wZ_nil, ↓wZ_cons, ↓kSz_0, ↓kSz_1, ↓kSz_2, ↓kSz_3, ↓kSz_4, ↓kSz_5, ↓kSz_6, ↓kSz_7, ↓kSz_8, ↓wE_tup, ↓wE_lst, ↓kT_bool, ↓wT_tst, ↓wT_and, ↓wT_or, ↓wT_not, ↓wT_yes, ↓wE_bool, ↓wE_if, ↓kAs_val, ↓kAs_own, ↓kAs_io, ↓wAs_nil, ↓wAs_fz, ↓wAs_bw, ↓kOut_nil, ↓kOut_nilr, ↓kPut_own, ↓kPut_io, ↓kOut_one, ↓kOut_oner, ↓wE_call, ↓w_add, ↓w_sub, ↓w_mul, ↓w_mulI, ↓w_fdiv, ↓w_mod, ↓w_neg, ↓w_lt, ↓w_le, ↓w_gt, ↓w_ge, ↓w_eq, ↓w_ne, ↓w_abs, ↓w_min2, ↓w_max2, ↓w_int, ↓w_intb, ↓w_pow, ↓w_lenL, ↓w_lenT, ↓w_ixL, ↓w_ixT, ↓w_tupL, ↓w_tupT, ↓w_listL, ↓w_listT, ↓kS_nx, ↓kS_bk, ↓kS_rt, ↓wS_nx, ↓wS_bk, ↓wS_seq, ↓kSt_fz, ↓kSt_fr, ↓wS_set, ↓kR_fz, ↓kR_fr, ↓wS_ret, ↓wS_retN, ↓wS_drop, ↓wS_if, ↓kAg_val, ↓wS_aug, ↓wG_N, ↓wG_T, ↓wGs_nil, ↓wGs_cons, ↓kIt_L, ↓kIt_T, ↓wI_seq, ↓kG1_i, ↓wI_rg1, ↓kG2_i, ↓wI_rg2, ↓wS_for, ↓wS_while, ↓kAz_fz, ↓wS_asg, ↓kL_nx, ↓kL_bk, ↓kL_rt, ↓wE_comp, ↓wU_nil, ↓wU_io, ↓wU_val, ↓kFn_fz, ↓kFn_fr, ↓kFn_nx, ↓wM_append, ↓wM_pop, ↓wM_rev, ↓wM_ins, ↓wM_popAt, ↓kMt_own, ↓kMt_io, ↓wE_mut, ↓wE_mut0, ↓kSi_i, ↓kSo_fz, ↓wS_store, ↓wE_meth, ↓w_addLL, ↓w_addTT, ↓w_mulLI, ↓w_mulTI, ↓w_inTI, ↓w_inLI, ↓w_inTN, ↓w_inLN, ↓w_sumTI, ↓w_sumLI, ↓w_sumTN, ↓w_sumLN, ↓w_cntTI, ↓w_cntTN, ↓w_cntLI, ↓w_cntLN, ↓kTR1_i, ↓kLR1_i, ↓wE_tupRg1, ↓wE_listRg1, ↓kTR2b_i, ↓kTR2_i, ↓kLR2b_i, ↓kLR2_i, ↓w_isN_none, ↓w_isN_bool, ↓w_isN_int, ↓w_isN_str, ↓w_isN_tuple, ↓w_notN_none, ↓w_notN_bool, ↓w_notN_int, ↓w_notN_str, ↓w_notN_tuple, ↓w_eqb, ↓w_eqLN, ↓w_neLN, ↓w_eqTN, ↓w_neTN, ↓w_neb, ↓w_isB, ↓w_notB, ↓w_revL, ↓w_iadd, ↓kW_oz, ↓kPar_2, ↓wS_par, ↓kCh2_b, ↓kCh_fz, ↓wE_chain, ↓w_gcd, ↓kSS_fz, ↓wE_sortSet, ↓w_sortSetI, ↓w_sortSetN, ↓wX_no, ↓kOI_i, ↓wX_yes, ↓wE_sl, ↓w_slT, ↓w_slL, ↓ats0, ↓ats1, ↓ats2, ↓ats3, ↓w_eqOI, ↓w_neOI, ↓w_eqOO, ↓w_isOI, ↓w_notOI, ↓w_revTL, ↓w_revTT, ↓kAuZ_fz, ↓kAuS_i, ↓wS_augS, ↓kEx_fr, ↓kEx_bw, ↓wS_ext, ↓kOn_fz, ↓wE_onFz, ↓w_ss2T, ↓w_ss2L, ↓w_ss2TN, ↓w_ss2LN, ↓w_lsT, ↓w_lsL, ↓w_srtI, ↓w_srtN, ↓w_srtTI, ↓w_srtTN, ↓w_srtP, ↓kG3_i, ↓wI_rg3, ↓wE_comp2, pl_1, pl_2, wipe_1, wipe_2, unw_1, unw_2, List.getD_cons_zero, List.getD_cons_succ, List.set_cons_zero, List.set_cons_succ, List.cons_append, List.nil_append, List.replicate_succ, List.replicate_zero, Nat.reduceSub, Nat.reduceAdd, Nat.reduceLT, plain_no, plain_val, plain_ov, Int.natCast_zero, Int.ofNat_zero, Int.cast_ofNat_Int, decide_eq_true_eq, decide_eq_false_iff_not, Bool.not_eq_true', Bool.not_eq_false', Bool.not_true, Bool.not_false, if_true, if_false, true_and, and_true, forall_const, decide_true, decide_false, Int.toNat_natCast, Int.reduceEq, Int.reduceNe, Int.reduceLT, Int.reduceLE, Int.zero_add, implies_true, true_implies, not_true_eq_false, not_false_eq_true, false_implies, false_and, and_false, reduceCtorEq, ite_true, ite_false, eq_self, List.length_cons, List.length_nil, oz_own, oz_val, pl_3, pl_4, wipe_3, wipe_4, unw_3, unw_4]
      exact h2
    · simp only [↓wO_some, ↓wO_none, ↓wSl_0, ↓wSl_s, ↓wP_0, ↓wP_s, ↓kW_no, ↓kW_val, ↓kW_own, ↓kW_ov, ↓wO_setSlot, ↓wE_C, ↓kB_val, ↓kB_own, ↓kB_io, ↓wE_B, ↓kV_val, ↓kV_own, ↓wE_V, ↓kM_val, ↓kM_own, ↓wE_M, ↓kF_fz, ↓kF_bw, ↓kF_fr, ↓wE_F, ↓wR_fz, ↓kCt_val, ↓kCt_own, ↓kCt_io, ↓wR_bw, ↓wE_bin, ↓wE_un, ↓wA_nil, ↓kA_fz, ↓kA_bw, ↓kA_fr, ↓wA_cons, ↓wRs_nil, ↓wRs_cons, ↓wE_args, ↓wZ_nil, ↓wZ_cons, ↓kSz_0, ↓kSz_1, ↓kSz_2, ↓kSz_3, ↓kSz_4, ↓kSz_5, ↓kSz_6, ↓kSz_7, ↓kSz_8, ↓wE_tup, ↓wE_lst, ↓kT_bool, ↓wT_tst, ↓wT_and, ↓wT_or, ↓wT_not, ↓wT_yes, ↓wE_bool, ↓wE_if, ↓kAs_val, ↓kAs_own, ↓kAs_io, ↓wAs_nil, ↓wAs_fz, ↓wAs_bw, ↓kOut_nil, ↓kOut_nilr, ↓kPut_own, ↓kPut_io, ↓kOut_one, ↓kOut_oner, ↓wE_call, ↓w_add, ↓w_sub, ↓w_mul, ↓w_mulI, ↓w_fdiv, ↓w_mod, ↓w_neg, ↓w_lt, ↓w_le, ↓w_gt, ↓w_ge, ↓w_eq, ↓w_ne, ↓w_abs, ↓w_min2, ↓w_max2, ↓w_int, ↓w_intb, ↓w_pow, ↓w_lenL, ↓w_lenT, ↓w_ixL, ↓w_ixT, ↓w_tupL, ↓w_tupT, ↓w_listL, ↓w_listT, ↓kS_nx, ↓kS_bk, ↓kS_rt, ↓wS_nx, ↓wS_bk, ↓wS_seq, ↓kSt_fz, ↓kSt_fr, ↓wS_set, ↓kR_fz, ↓kR_fr, ↓wS_ret, ↓wS_retN, ↓wS_drop, ↓wS_if, ↓kAg_val, ↓wS_aug, ↓wG_N, ↓wG_T, ↓wGs_nil, ↓wGs_cons, ↓kIt_L, ↓kIt_T, ↓wI_seq, ↓kG1_i, ↓wI_rg1, ↓kG2_i, ↓wI_rg2, ↓wS_for, ↓wS_while, ↓kAz_fz, ↓wS_asg, ↓kL_nx, ↓kL_bk, ↓kL_rt, ↓wE_comp, ↓wU_nil, ↓wU_io, ↓wU_val, ↓kFn_fz, ↓kFn_fr, ↓kFn_nx, ↓wM_append, ↓wM_pop, ↓wM_rev, ↓wM_ins, ↓wM_popAt, ↓kMt_own, ↓kMt_io, ↓wE_mut, ↓wE_mut0, ↓kSi_i, ↓kSo_fz, ↓wS_store, ↓wE_meth, ↓w_addLL, ↓w_addTT, ↓w_mulLI, ↓w_mulTI, ↓w_inTI, ↓w_inLI, ↓w_inTN, ↓w_inLN, ↓w_sumTI, ↓w_sumLI, ↓w_sumTN, ↓w_sumLN, ↓w_cntTI, ↓w_cntTN, ↓w_cntLI, ↓w_cntLN, ↓kTR1_i, ↓kLR1_i, ↓wE_tupRg1, ↓wE_listRg1, ↓kTR2b_i, ↓kTR2_i, ↓kLR2b_i, ↓kLR2_i, ↓w_isN_none, ↓w_isN_bool, ↓w_isN_int, ↓w_isN_str, ↓w_isN_tuple, ↓w_notN_none, ↓w_notN_bool, ↓w_notN_int, ↓w_notN_str, ↓w_notN_tuple, ↓w_eqb, ↓w_eqLN, ↓w_neLN, ↓w_eqTN, ↓w_neTN, ↓w_neb, ↓w_isB, ↓w_notB, ↓w_revL, ↓w_iadd, ↓kW_oz, ↓kPar_2, ↓wS_par, ↓kCh2_b, ↓kCh_fz, ↓wE_chain, ↓w_gcd, ↓kSS_fz, ↓wE_sortSet, ↓w_sortSetI, ↓w_sortSetN, ↓wX_no, ↓kOI_i, ↓wX_yes, ↓wE_sl, ↓w_slT, ↓w_slL, ↓ats0, ↓ats1, ↓ats2, ↓ats3, ↓w_eqOI, ↓w_neOI, ↓w_eqOO, ↓w_isOI, ↓w_notOI, ↓w_revTL, ↓w_revTT, ↓kAuZ_fz, ↓kAuS_i, ↓wS_augS, ↓kEx_fr, ↓kEx_bw, ↓wS_ext, ↓kOn_fz, ↓wE_onFz, ↓w_ss2T, ↓w_ss2L, ↓w_ss2TN, ↓w_ss2LN, ↓w_lsT, ↓w_lsL, ↓w_srtI, ↓w_srtN, ↓w_srtTI, ↓w_srtTN, ↓w_srtP, ↓kG3_i, ↓wI_rg3, ↓wE_comp2, pl_1, pl_2, wipe_1, wipe_2, unw_1, unw_2, List.getD_cons_zero, List.getD_cons_succ, List.set_cons_zero, List.set_cons_succ, List.cons_append, List.nil_append, List.replicate_succ, List.replicate_zero, Nat.reduceSub, Nat.reduceAdd, Nat.reduceLT, plain_no, plain_val, plain_ov, Int.natCast_zero, Int.ofNat_zero, Int.cast_ofNat_Int, decide_eq_true_eq, decide_eq_false_iff_not, Bool.not_eq_true', Bool.not_eq_false', Bool.not_true, Bool.not_false, if_true, if_false, true_and, and_true, forall_const, decide_true, decide_false, Int.toNat_natCast, Int.reduceEq, Int.reduceNe, Int.reduceLT, Int.reduceLE, Int.zero_add, implies_true, true_implies, not_true_eq_false, not_false_eq_true, false_implies, false_and, and_false, reduceCtorEq, ite_true, ite_false, eq_self, List.length_cons, List.length_nil, oz_own, oz_val, pl_3, pl_4, wipe_3, wipe_4, unw_3, unw_4]
      exact h1
end Ev


set_option Elab.async false
set_option linter.all false
set_option maxRecDepth 100000
namespace K89
open PySem PySem.Spec Ev
abbrev F_fraction : Fn := Ev.F_fraction
abbrev F_plus_of : Fn := Ev.F_plus_of
abbrev F_minus_of : Fn := Ev.F_minus_of
abbrev F_is_less : Fn := Ev.F_is_less
def B_count_choices : SF := (sSeq (sIf (fNot (fTst (fChain leD leD (fC (.int 0)) (fB 1) (fB 0))))
  (sRet (fC (.int 0)))
  sNx)
  (sSeq (sSet 2 (fC (.int 1)))
  (sSeq (sFor (iRg1 (aCons (fV 1) aNil)) (gN 3)
  (sSet 2 (fBin fdivD (fBin mulD (fB 2) (fBin subD (fB 0) (fB 3))) (fBin addD (fB 3) (fC (.int 1))))))
  (sRet (fM 2)))))
def F_count_choices : Fn := fnOf 2 4 B_count_choices
def B_chance_found : SF := (sRet (fCall F_fraction (aCons (fBin mulD (fCall F_count_choices (aCons (fV 1) (aCons (fV 3) aNil))) (fCall F_count_choices (aCons (fBin subD (fB 0) (fB 1)) (aCons (fBin subD (fB 2) (fB 3)) aNil)))) (aCons (fCall F_count_choices (aCons (fV 0) (aCons (fV 2) aNil))) aNil))))
def F_chance_found : Fn := fnOf 4 4 B_chance_found
def B_chance_none_found : SF := (sRet (fCall F_chance_found (aCons (fV 0) (aCons (fV 1) (aCons (fV 2) (aCons (fC (.int 0)) aNil))))))
def F_chance_none_found : Fn := fnOf 3 3 B_chance_none_found
def B_is_enough : SF := (sRet (fBool (fNot (fTst (fCall F_is_less (aCons (fV 3) (aCons (fCall F_chance_none_found (aCons (fV 0) (aCons (fV 1) (aCons (fV 2) aNil)))) aNil)))))))
def F_is_enough : Fn := fnOf 4 4 B_is_enough
def B_looks_needed : SF := (sSeq (sSet 3 (fComp [4] (iRg1 (aCons (fBin addD (fB 0) (fC (.int 1))) aNil)) (gN 4) (fTst (fCall F_is_enough (aCons (fV 0) (aCons (fV 1) (aCons (fV 4) (aCons (fV 2) aNil)))))) (fV 4)))
  (sRet (fIf (fTst (fBin gtD (fArgs lenD (aCons (fB 3) aNil)) (fC (.int 0)))) (fBin ixD (fB 3) (fC (.int 0))) (fC .none))))
def F_looks_needed : Fn := fnOf 3 5 B_looks_needed
def B_mean_found : SF := (sRet (fIf (fTst (fBin gtD (fB 0) (fC (.int 0)))) (fCall F_fraction (aCons (fBin mulD (fB 1) (fB 2)) (aCons (fV 0) aNil))) (fTup (aCons (fC (.int 0)) (aCons (fC (.int 1)) aNil)))))
def F_mean_found : Fn := fnOf 3 3 B_mean_found
def B_power : SF := (sSeq (sSet 2 (fC (.int 1)))
  (sSeq (sFor (iRg1 (aCons (fV 1) aNil)) (gN 3)
  (sAug 2 mulI (fB 0)))
  (sRet (fM 2))))
def F_power : Fn := fnOf 2 4 B_power
def B_ways_to_choose : SF := (sSeq (sSet 2 (fC (.int 1)))
  (sSeq (sFor (iRg1 (aCons (fV 1) aNil)) (gN 3)
  (sSet 2 (fBin fdivD (fBin mulD (fB 2) (fBin subD (fB 0) (fB 3))) (fBin addD (fB 3) (fC (.int 1))))))
  (sRet (fM 2))))
def F_ways_to_choose : Fn := fnOf 2 4 B_ways_to_choose
def B_chance_right : SF := (sSeq (sIf (fNot (fTst (fChain leD leD (fC (.int 0)) (fB 2) (fB 0))))
  (sRet (fTup (aCons (fC (.int 0)) (aCons (fC (.int 1)) aNil))))
  sNx)
  (sRet (fCall F_fraction (aCons (fBin mulD (fCall F_ways_to_choose (aCons (fV 0) (aCons (fV 2) aNil))) (fCall F_power (aCons (fBin subD (fB 1) (fC (.int 1))) (aCons (fBin subD (fB 0) (fB 2)) aNil)))) (aCons (fCall F_power (aCons (fV 1) (aCons (fV 0) aNil))) aNil)))))
def F_chance_right : Fn := fnOf 3 3 B_chance_right
def B_chance_pass : SF := (sSeq (sSet 3 (fTup (aCons (fC (.int 0)) (aCons (fC (.int 1)) aNil))))
  (sSeq (sFor (iRg2 (aCons (fArgs max2D (aCons (fB 2) (aCons (fC (.int 0)) aNil))) (aCons (fBin addD (fB 0) (fC (.int 1))) aNil))) (gN 4)
  (sSet 3 (fCall F_plus_of (aCons (fV 3) (aCons (fCall F_chance_right (aCons (fV 0) (aCons (fV 1) (aCons (fV 4) aNil)))) aNil)))))
  (sRet (fM 3))))
def F_chance_pass : Fn := fnOf 3 5 B_chance_pass
def B_mean_right : SF := (sRet (fCall F_fraction (aCons (fV 0) (aCons (fV 1) aNil))))
def F_mean_right : Fn := fnOf 2 2 B_mean_right
abbrev F__law_draws : Fn := Ev.F_drawsB
abbrev F__law_take : Fn := Ev.F_take
abbrev F__law_same : Fn := Ev.F_sameB
abbrev R__law_same : Nat → Fn := Ev.R_sameB
abbrev F__law_lowest : Fn := Ev.F_lowest
def B__law_are_chances_right_8 : SF := (sRet (fBool (fAnd (fTst (fCall F__law_same (aCons (fCall F_chance_found (aCons (fV 0) (aCons (fV 3) (aCons (fV 0) (aCons (fV 3) aNil))))) (aCons (fTup (aCons (fC (.int 1)) (aCons (fC (.int 1)) aNil))) aNil)))) (fTst (fCall F__law_same (aCons (fCall F_chance_found (aCons (fV 0) (aCons (fV 3) (aCons (fV 2) (aCons (fBin addD (fB 3) (fC (.int 1))) aNil))))) (aCons (fTup (aCons (fC (.int 0)) (aCons (fC (.int 1)) aNil))) aNil)))))))
def B__law_are_chances_right_7 : SF := (sSeq (sIf (fAnd (fTst (fBin gtD (fB 2) (fC (.int 0)))) (fTst (fBin notB (fCall F_is_less (aCons (fCall F_minus_of (aCons (fTup (aCons (fC (.int 1)) (aCons (fC (.int 1)) aNil))) (aCons (fV 4) aNil))) (aCons (fCall F_chance_pass (aCons (fV 2) (aCons (fV 1) (aCons (fC (.int 1)) aNil)))) aNil))) (fC (.bool false)))))
  (sRet (fC (.bool false)))
  sNx)
  B__law_are_chances_right_8)
def B__law_are_chances_right_6 : SF := (sSeq (sIf (fOr (fTst (fBin notB (fCall F_is_less (aCons (fCall F_chance_right (aCons (fV 2) (aCons (fV 1) (aCons (fV 2) aNil)))) (aCons (fV 6) aNil))) (fC (.bool false)))) (fAnd (fTst (fBin ltD (fB 2) (fC (.int 2)))) (fTst (fBin neD (fB 6) (fCall F_chance_right (aCons (fV 2) (aCons (fV 1) (aCons (fV 2) aNil))))))))
  (sRet (fC (.bool false)))
  sNx)
  B__law_are_chances_right_7)
def B__law_are_chances_right_5 : SF := (sSeq (sSet 6 (fCall F_chance_found (aCons (fV 0) (aCons (fV 3) (aCons (fV 2) (aCons (fV 2) aNil))))))
  B__law_are_chances_right_6)
def B__law_are_chances_right_4 : SF := (sSeq (sIf (fOr (fTst (fBin notB (fCall F_is_less (aCons (fV 5) (aCons (fV 4) aNil))) (fC (.bool false)))) (fTst (fBin neD (fBin eqD (fB 4) (fB 5)) (fBin ltD (fB 2) (fC (.int 2))))))
  (sRet (fC (.bool false)))
  sNx)
  B__law_are_chances_right_5)
def B__law_are_chances_right_3 : SF := (sSeq (sSet 5 (fCall F_chance_right (aCons (fV 2) (aCons (fV 1) (aCons (fC (.int 0)) aNil)))))
  B__law_are_chances_right_4)
def B__law_are_chances_right_2 : SF := (sSeq (sSet 4 (fCall F_chance_none_found (aCons (fV 0) (aCons (fV 3) (aCons (fV 2) aNil)))))
  B__law_are_chances_right_3)
def B__law_are_chances_right_1 : SF := (sSeq (sIf (fNot (fTst (fCall F__law_same (aCons (fCall F_mean_found (aCons (fV 0) (aCons (fV 3) (aCons (fV 2) aNil)))) (aCons (fCall F_mean_right (aCons (fV 2) (aCons (fV 1) aNil))) aNil)))))
  (sRet (fC (.bool false)))
  sNx)
  B__law_are_chances_right_2)
def B__law_are_chances_right : SF := (sSeq (sSet 3 (fBin fdivD (fB 0) (fB 1)))
  B__law_are_chances_right_1)
def F__law_are_chances_right : Fn := fnOf 3 7 B__law_are_chances_right
def B__law_are_needed_right : SF := (sSeq (sSet 3 (fCall F__law_take (aCons (fB 0) (aCons (fBin addD (fB 1) (fC (.int 1))) aNil))))
  (sSeq (sSet 4 (fCall F_chance_right (aCons (fV 3) (aCons (fV 2) (aCons (fC (.int 0)) aNil)))))
  (sSeq (sSet 5 (fCall F_looks_needed (aCons (fV 1) (aCons (fBin fdivD (fB 1) (fB 2)) (aCons (fV 4) aNil)))))
  (sSeq (sIf (fOr (fNot (fTst (fUn (isiD "int") (fB 5)))) (fOr (fTst (fUn (isiD "bool") (fB 5))) (fTst (fBin gtD (fB 5) (fB 3)))))
  (sRet (fC (.bool false)))
  sNx)
  (sRet (fBool (fOr (fTst (fBin eqD (fB 5) (fC (.int 0)))) (fTst (fBin isB (fCall F_is_less (aCons (fV 4) (aCons (fCall F_chance_none_found (aCons (fV 1) (aCons (fBin fdivD (fB 1) (fB 2)) (aCons (fBin subD (fB 5) (fC (.int 1))) aNil)))) aNil))) (fC (.bool true)))))))))))
def F__law_are_needed_right : Fn := fnOf 3 6 B__law_are_needed_right
def B__law_rows : SF := (sSeq (sSet 3 (fLst (aCons (fTup aNil) aNil)))
  (sSeq (sFor (iRg1 (aCons (fV 1) aNil)) (gN 4)
  (sSeq (sSet 5 (fLst aNil))
  (sSeq (sFor (iSeq (fV 3)) (gN 6)
  (sSet 5 (fBin addD (fB 5) (fComp [7] (iRg1 (aCons (fV 0) aNil)) (gN 7) (fOr (fTst (fB 2)) (fTst (fBin (inD true) (fB 7) (fB 6)))) (fBin addD (fB 6) (fTup (aCons (fV 7) aNil)))))))
  (sSet 3 (fV 5)))))
  (sRet (fM 3))))
def F__law_rows : Fn := fnOf 3 8 B__law_rows
def B__law_are_rows_right_5 : SF := (sRet (fC (.bool true)))
def B__law_are_rows_right_4 : SF := (sSeq (sFor (iSeq (fLst (aCons (fC (.bool true)) (aCons (fC (.bool false)) aNil)))) (gN 5)
  (sSeq (sSet 6 (fCall F__law_rows (aCons (fV 3) (aCons (fV 4) (aCons (fV 5) aNil)))))
  (sFor (iRg1 (aCons (fBin addD (fB 4) (fC (.int 1))) aNil)) (gN 7)
  (sSeq (sSet 8 (fArgs lenD (aCons (fComp [11] (iSeq (fV 6)) (gN 11) (fTst (fBin eqD (fArgs lenD (aCons (fComp [12] (iSeq (fV 11)) (gN 12) (fTst (fBin ltD (fB 12) (fB 2))) (fV 12)) aNil)) (fB 7))) (fV 11)) aNil)))
  (sSeq (sSet 9 (fCall F__law_lowest (aCons (fV 8) (aCons (fArgs lenD (aCons (fB 6) aNil)) aNil))))
  (sSeq (sSet 10 (fCall F_chance_found (aCons (fV 3) (aCons (fV 2) (aCons (fV 4) (aCons (fV 7) aNil))))))
  (sSeq (sIf (fTst (fB 5))
  (sSet 10 (fCall F_chance_right (aCons (fV 4) (aCons (fV 1) (aCons (fV 7) aNil)))))
  sNx)
  (sIf (fNot (fTst (fCall F__law_same (aCons (fV 10) (aCons (fV 9) aNil)))))
  (sRet (fC (.bool false)))
  sNx))))))))
  B__law_are_rows_right_5)
def B__law_are_rows_right_3 : SF := (sSeq (sSet 4 (fArgs min2D (aCons (fCall F__law_take (aCons (fB 0) (aCons (fC (.int 4)) aNil))) (aCons (fB 3) aNil))))
  B__law_are_rows_right_4)
def B__law_are_rows_right_2 : SF := (sSeq (sSet 3 (fBin mulD (fB 1) (fB 2)))
  B__law_are_rows_right_3)
def B__law_are_rows_right_1 : SF := (sSeq (sSet 2 (fBin addD (fC (.int 1)) (fCall F__law_take (aCons (fB 0) (aCons (fC (.int 2)) aNil)))))
  B__law_are_rows_right_2)
def B__law_are_rows_right : SF := (sSeq (sSet 1 (fBin addD (fC (.int 2)) (fCall F__law_take (aCons (fB 0) (aCons (fC (.int 2)) aNil)))))
  B__law_are_rows_right_1)
def F__law_are_rows_right : Fn := fnOf 1 13 B__law_are_rows_right
def B_law : SF := (sSeq (sSet 1 (fCall F__law_draws (aCons (fV 0) (aCons (fC (.int 120)) aNil))))
  (sSeq (sFor (iRg1 (aCons (fC (.int 3)) aNil)) (gN 2)
  (sSeq (sSet 3 (fBin addD (fC (.int 2)) (fCall F__law_take (aCons (fB 1) (aCons (fC (.int 5)) aNil)))))
  (sSeq (sSet 4 (fBin mulD (fB 3) (fBin addD (fC (.int 1)) (fCall F__law_take (aCons (fB 1) (aCons (fBin fdivD (fC (.int 48)) (fB 3)) aNil))))))
  (sIf (fOr (fNot (fTst (fCall F__law_are_chances_right (aCons (fV 4) (aCons (fV 3) (aCons (fCall F__law_take (aCons (fB 1) (aCons (fBin addD (fB 4) (fC (.int 1))) aNil))) aNil)))))) (fNot (fTst (fCall F__law_are_needed_right (aCons (fB 1) (aCons (fV 4) (aCons (fV 3) aNil)))))))
  (sRet (fC (.bool false)))
  sNx))))
  (sSeq (sIf (fNot (fTst (fCall F__law_are_rows_right (aCons (fB 1) aNil))))
  (sRet (fC (.bool false)))
  sNx)
  (sSeq (sIf (fOr (fNot (fTst (fCall F__law_same (aCons (fCall F_chance_none_found (aCons (fC (.int 4)) (aCons (fC (.int 2)) (aCons (fC (.int 2)) aNil)))) (aCons (fTup (aCons (fC (.int 1)) (aCons (fC (.int 6)) aNil))) aNil))))) (fOr (fNot (fTst (fCall F__law_same (aCons (fCall F_chance_right (aCons (fC (.int 2)) (aCons (fC (.int 2)) (aCons (fC (.int 0)) aNil)))) (aCons (fTup (aCons (fC (.int 1)) (aCons (fC (.int 4)) aNil))) aNil))))) (fNot (fTst (fCall F__law_same (aCons (fCall F_mean_found (aCons (fC (.int 4)) (aCons (fC (.int 2)) (aCons (fC (.int 3)) aNil)))) (aCons (fTup (aCons (fC (.int 3)) (aCons (fC (.int 2)) aNil))) aNil)))))))
  (sRet (fC (.bool false)))
  sNx)
  (sRet (fBool (fAnd (fTst (fCall F__law_same (aCons (fCall F_looks_needed (aCons (fC (.int 4)) (aCons (fC (.int 2)) (aCons (fTup (aCons (fC (.int 1)) (aCons (fC (.int 4)) aNil))) aNil)))) (aCons (fC (.int 2)) aNil)))) (fAnd (fTst (fCall F__law_same (aCons (fCall F_chance_found (aCons (fC (.int 4)) (aCons (fC (.int 2)) (aCons (fC (.int 2)) (aCons (fC (.int 2)) aNil))))) (aCons (fTup (aCons (fC (.int 1)) (aCons (fC (.int 6)) aNil))) aNil)))) (fTst (fCall F__law_are_chances_right (aCons (fC (.int 6)) (aCons (fC (.int 3)) (aCons (fC (.int 2)) aNil)))))))))))))
def F_law : Fn := fnOf 1 5 B_law
end K89


set_option Elab.async false
set_option linter.all false
set_option maxRecDepth 100000
namespace K89
open PySem PySem.Spec Ev
open L2 (ixN)
/-! ### choices, plainly -/
def chl (n : Nat) : Nat → Nat
  | 0 => 1
  | k + 1 => chl n k * (n - k) / (k + 1)
def chI (n k : Int) : Nat := if 0 ≤ k ∧ k ≤ n then chl n.toNat k.toNat else 0
theorem chl_le (n : Nat) : ∀ k, chl n k ≤ n ^ k
  | 0 => Nat.le_refl _
  | k + 1 => by
    show chl n k * (n - k) / (k + 1) ≤ _
    rw [Nat.pow_succ]
    exact Nat.le_trans (Nat.div_le_self ..) (Nat.mul_le_mul (chl_le n k) (Nat.sub_le ..))
theorem chl_lt {n k : Nat} (hn : n ≤ 64) (hk : k ≤ 64) : chl n k < 2 ^ 400 :=
  Nat.lt_of_le_of_lt (Nat.le_trans (chl_le n k) (Nat.le_trans (Nat.pow_le_pow_left hn k) (Nat.pow_le_pow_right (by decide) hk))) (by decide +kernel)
theorem chI_lt {n k : Int} (hn : n ≤ 64) : chI n k < 2 ^ 400 := by
  unfold chI
  split
  · exact chl_lt (by omega) (by omega)
  · exact Nat.pow_pos (by decide)
theorem fdiv_nat (a c : Nat) : (a : Int).fdiv c = ((a / c : Nat) : Int) := by
  rw [Int.fdiv_eq_ediv_of_nonneg _ (by omega)]; rfl
theorem dk {c : Nat} (h : 1 ≤ c) (h2 : c < 2 ^ 70) : divOk (c : Int) = true := divOk_of (by omega) (Nat.lt_of_lt_of_le (show ((c : Int)).natAbs < 2 ^ 70 by omega) (Nat.pow_le_pow_right (by decide) (by decide)))
theorem chstep {n s : Nat} (hs : s < n) : ((chl n s : Nat) : Int) * ((n : Int) - (s : Int)) = ((chl n s * (n - s) : Nat) : Int) := by
  rw [Int.natCast_mul, Int.natCast_sub (by omega)]
theorem choices_eq (n k : Int) (hn : n ≤ 64) : F_count_choices [.val (.int n), .val (.int k)] = some (.fz (.int (chI n k : Nat)), []) := by
  refine eq_of_wO (wO_fn rfl ?_)
  unfold B_count_choices chI
  simp only [↓wO_some, ↓wO_none, ↓wSl_0, ↓wSl_s, ↓wP_0, ↓wP_s, ↓kW_no, ↓kW_val, ↓kW_own, ↓kW_ov, ↓wO_setSlot, ↓wE_C, ↓kB_val, ↓kB_own, ↓kB_io, ↓wE_B, ↓kV_val, ↓kV_own, ↓wE_V, ↓kM_val, ↓kM_own, ↓wE_M, ↓kF_fz, ↓kF_bw, ↓kF_fr, ↓wE_F, ↓wR_fz, ↓kCt_val, ↓kCt_own, ↓kCt_io, ↓wR_bw, ↓wE_bin, ↓wE_un, ↓wA_nil, ↓kA_fz, ↓kA_bw, ↓kA_fr, ↓wA_cons, ↓wRs_nil, ↓wRs_cons, ↓wE_args, ↓wZ_nil, ↓wZ_cons, ↓kSz_0, ↓kSz_1, ↓kSz_2, ↓kSz_3, ↓kSz_4, ↓kSz_5, ↓kSz_6, ↓kSz_7, ↓kSz_8, ↓wE_tup, ↓wE_lst, ↓kT_bool, ↓wT_tst, ↓wT_and, ↓wT_or, ↓wT_not, ↓wT_yes, ↓wE_bool, ↓wE_if, ↓kAs_val, ↓kAs_own, ↓kAs_io, ↓wAs_nil, ↓wAs_fz, ↓wAs_bw, ↓kOut_nil, ↓kOut_nilr, ↓kPut_own, ↓kPut_io, ↓kOut_one, ↓kOut_oner, ↓wE_call, ↓w_add, ↓w_sub, ↓w_mul, ↓w_mulI, ↓w_fdiv, ↓w_mod, ↓w_neg, ↓w_lt, ↓w_le, ↓w_gt, ↓w_ge, ↓w_eq, ↓w_ne, ↓w_abs, ↓w_min2, ↓w_max2, ↓w_int, ↓w_intb, ↓w_pow, ↓w_lenL, ↓w_lenT, ↓w_ixL, ↓w_ixT, ↓w_tupL, ↓w_tupT, ↓w_listL, ↓w_listT, ↓kS_nx, ↓kS_bk, ↓kS_rt, ↓wS_nx, ↓wS_bk, ↓wS_seq, ↓kSt_fz, ↓kSt_fr, ↓wS_set, ↓kR_fz, ↓kR_fr, ↓wS_ret, ↓wS_retN, ↓wS_drop, ↓wS_if, ↓kAg_val, ↓wS_aug, ↓wG_N, ↓wG_T, ↓wGs_nil, ↓wGs_cons, ↓kIt_L, ↓kIt_T, ↓wI_seq, ↓kG1_i, ↓wI_rg1, ↓kG2_i, ↓wI_rg2, ↓wS_for, ↓wS_while, ↓kAz_fz, ↓wS_asg, ↓kL_nx, ↓kL_bk, ↓kL_rt, ↓wE_comp, ↓wU_nil, ↓wU_io, ↓wU_val, ↓kFn_fz, ↓kFn_fr, ↓kFn_nx, ↓wM_append, ↓wM_pop, ↓wM_rev, ↓wM_ins, ↓wM_popAt, ↓kMt_own, ↓kMt_io, ↓wE_mut, ↓wE_mut0, ↓kSi_i, ↓kSo_fz, ↓wS_store, ↓wE_meth, ↓w_addLL, ↓w_addTT, ↓w_mulLI, ↓w_mulTI, ↓w_inTI, ↓w_inLI, ↓w_inTN, ↓w_inLN, ↓w_sumTI, ↓w_sumLI, ↓w_sumTN, ↓w_sumLN, ↓w_cntTI, ↓w_cntTN, ↓w_cntLI, ↓w_cntLN, ↓kTR1_i, ↓kLR1_i, ↓wE_tupRg1, ↓wE_listRg1, ↓kTR2b_i, ↓kTR2_i, ↓kLR2b_i, ↓kLR2_i, ↓w_isN_none, ↓w_isN_bool, ↓w_isN_int, ↓w_isN_str, ↓w_isN_tuple, ↓w_notN_none, ↓w_notN_bool, ↓w_notN_int, ↓w_notN_str, ↓w_notN_tuple, ↓w_eqb, ↓w_eqLN, ↓w_neLN, ↓w_eqTN, ↓w_neTN, ↓w_neb, ↓w_isB, ↓w_notB, ↓w_revL, ↓w_iadd, ↓kW_oz, ↓kPar_2, ↓wS_par, ↓kCh2_b, ↓kCh_fz, ↓wE_chain, ↓w_gcd, ↓kSS_fz, ↓wE_sortSet, ↓w_sortSetI, ↓w_sortSetN, ↓wX_no, ↓kOI_i, ↓wX_yes, ↓wE_sl, ↓w_slT, ↓w_slL, ↓ats0, ↓ats1, ↓ats2, ↓ats3, ↓w_eqOI, ↓w_neOI, ↓w_eqOO, ↓w_isOI, ↓w_notOI, ↓w_revTL, ↓w_revTT, ↓kAuZ_fz, ↓kAuS_i, ↓wS_augS, ↓kEx_fr, ↓kEx_bw, ↓wS_ext, ↓kOn_fz, ↓wE_onFz, ↓w_ss2T, ↓w_ss2L, ↓w_ss2TN, ↓w_ss2LN, ↓w_lsT, ↓w_lsL, ↓w_srtI, ↓w_srtN, ↓w_srtTI, ↓w_srtTN, ↓w_srtP, ↓kG3_i, ↓wI_rg3, ↓wE_comp2, pl_1, pl_2, wipe_1, wipe_2, unw_1, unw_2, List.getD_cons_zero, List.getD_cons_succ, List.set_cons_zero, List.set_cons_succ, List.cons_append, List.nil_append, List.replicate_succ, List.replicate_zero, Nat.reduceSub, Nat.reduceAdd, Nat.reduceLT, plain_no, plain_val, plain_ov, Int.natCast_zero, Int.ofNat_zero, Int.cast_ofNat_Int, decide_eq_true_eq, decide_eq_false_iff_not, Bool.not_eq_true', Bool.not_eq_false', Bool.not_true, Bool.not_false, if_true, if_false, true_and, and_true, forall_const, decide_true, decide_false, Int.toNat_natCast, Int.reduceEq, Int.reduceNe, Int.reduceLT, Int.reduceLE, Int.zero_add, implies_true, true_implies, not_true_eq_false, not_false_eq_true, false_implies, false_and, and_false, reduceCtorEq, ite_true, ite_false, eq_self, List.length_cons, List.length_nil, oz_own, oz_val, pl_3, pl_4, wipe_3, wipe_4, unw_3, unw_4]
  refine ⟨fun h0 => ⟨fun h1 => ?_, fun h1 => ?_⟩, fun h0 => ?_⟩
  · rw [if_neg (fun z => by omega)]; rfl
  · rw [if_pos ⟨h0, h1⟩]
    obtain ⟨m, rfl⟩ : ∃ m : Nat, n = m := ⟨n.toNat, by omega⟩
    obtain ⟨j, rfl⟩ : ∃ j : Nat, k = j := ⟨k.toNat, by omega⟩
    refine wL_range (fun s ρ => ∃ (o3 : Option D), ρ = [.val (.int (m : Nat)), .val (.int (j : Nat)), .val (.int (chl m s : Nat)), ov o3]) ⟨none, rfl⟩ ?_ ?_
    · rintro s _ hs ⟨o3, rfl⟩
      have hs : s < m := by omega
      have e1 : (s : Int) + 1 = ((s + 1 : Nat) : Int) := by omega
      have hm : mulOk ((chl m s : Nat) : Int) ((m : Int) - (s : Int)) = true := mulOk_of (.inr (by omega))
      simp only [↓wO_some, ↓wO_none, ↓wSl_0, ↓wSl_s, ↓wP_0, ↓wP_s, ↓kW_no, ↓kW_val, ↓kW_own, ↓kW_ov, ↓wO_setSlot, ↓wE_C, ↓kB_val, ↓kB_own, ↓kB_io, ↓wE_B, ↓kV_val, ↓kV_own, ↓wE_V, ↓kM_val, ↓kM_own, ↓wE_M, ↓kF_fz, ↓kF_bw, ↓kF_fr, ↓wE_F, ↓wR_fz, ↓kCt_val, ↓kCt_own, ↓kCt_io, ↓wR_bw, ↓wE_bin, ↓wE_un, ↓wA_nil, ↓kA_fz, ↓kA_bw, ↓kA_fr, ↓wA_cons, ↓wRs_nil, ↓wRs_cons, ↓wE_args, ↓wZ_nil, ↓wZ_cons, ↓kSz_0, ↓kSz_1, ↓kSz_2, ↓kSz_3, ↓kSz_4, ↓kSz_5, ↓kSz_6, ↓kSz_7, ↓kSz_8, ↓wE_tup, ↓wE_lst, ↓kT_bool, ↓wT_tst, ↓wT_and, ↓wT_or, ↓wT_not, ↓wT_yes, ↓wE_bool, ↓wE_if, ↓kAs_val, ↓kAs_own, ↓kAs_io, ↓wAs_nil, ↓wAs_fz, ↓wAs_bw, ↓kOut_nil, ↓kOut_nilr, ↓kPut_own, ↓kPut_io, ↓kOut_one, ↓kOut_oner, ↓wE_call, ↓w_add, ↓w_sub, ↓w_mul, ↓w_mulI, ↓w_fdiv, ↓w_mod, ↓w_neg, ↓w_lt, ↓w_le, ↓w_gt, ↓w_ge, ↓w_eq, ↓w_ne, ↓w_abs, ↓w_min2, ↓w_max2, ↓w_int, ↓w_intb, ↓w_pow, ↓w_lenL, ↓w_lenT, ↓w_ixL, ↓w_ixT, ↓w_tupL, ↓w_tupT, ↓w_listL, ↓w_listT, ↓kS_nx, ↓kS_bk, ↓kS_rt, ↓wS_nx, ↓wS_bk, ↓wS_seq, ↓kSt_fz, ↓kSt_fr, ↓wS_set, ↓kR_fz, ↓kR_fr, ↓wS_ret, ↓wS_retN, ↓wS_drop, ↓wS_if, ↓kAg_val, ↓wS_aug, ↓wG_N, ↓wG_T, ↓wGs_nil, ↓wGs_cons, ↓kIt_L, ↓kIt_T, ↓wI_seq, ↓kG1_i, ↓wI_rg1, ↓kG2_i, ↓wI_rg2, ↓wS_for, ↓wS_while, ↓kAz_fz, ↓wS_asg, ↓kL_nx, ↓kL_bk, ↓kL_rt, ↓wE_comp, ↓wU_nil, ↓wU_io, ↓wU_val, ↓kFn_fz, ↓kFn_fr, ↓kFn_nx, ↓wM_append, ↓wM_pop, ↓wM_rev, ↓wM_ins, ↓wM_popAt, ↓kMt_own, ↓kMt_io, ↓wE_mut, ↓wE_mut0, ↓kSi_i, ↓kSo_fz, ↓wS_store, ↓wE_meth, ↓w_addLL, ↓w_addTT, ↓w_mulLI, ↓w_mulTI, ↓w_inTI, ↓w_inLI, ↓w_inTN, ↓w_inLN, ↓w_sumTI, ↓w_sumLI, ↓w_sumTN, ↓w_sumLN, ↓w_cntTI, ↓w_cntTN, ↓w_cntLI, ↓w_cntLN, ↓kTR1_i, ↓kLR1_i, ↓wE_tupRg1, ↓wE_listRg1, ↓kTR2b_i, ↓kTR2_i, ↓kLR2b_i, ↓kLR2_i, ↓w_isN_none, ↓w_isN_bool, ↓w_isN_int, ↓w_isN_str, ↓w_isN_tuple, ↓w_notN_none, ↓w_notN_bool, ↓w_notN_int, ↓w_notN_str, ↓w_notN_tuple, ↓w_eqb, ↓w_eqLN, ↓w_neLN, ↓w_eqTN, ↓w_neTN, ↓w_neb, ↓w_isB, ↓w_notB, ↓w_revL, ↓w_iadd, ↓kW_oz, ↓kPar_2, ↓wS_par, ↓kCh2_b, ↓kCh_fz, ↓wE_chain, ↓w_gcd, ↓kSS_fz, ↓wE_sortSet, ↓w_sortSetI, ↓w_sortSetN, ↓wX_no, ↓kOI_i, ↓wX_yes, ↓wE_sl, ↓w_slT, ↓w_slL, ↓ats0, ↓ats1, ↓ats2, ↓ats3, ↓w_eqOI, ↓w_neOI, ↓w_eqOO, ↓w_isOI, ↓w_notOI, ↓w_revTL, ↓w_revTT, ↓kAuZ_fz, ↓kAuS_i, ↓wS_augS, ↓kEx_fr, ↓kEx_bw, ↓wS_ext, ↓kOn_fz, ↓wE_onFz, ↓w_ss2T, ↓w_ss2L, ↓w_ss2TN, ↓w_ss2LN, ↓w_lsT, ↓w_lsL, ↓w_srtI, ↓w_srtN, ↓w_srtTI, ↓w_srtTN, ↓w_srtP, ↓kG3_i, ↓wI_rg3, ↓wE_comp2, pl_1, pl_2, wipe_1, wipe_2, unw_1, unw_2, List.getD_cons_zero, List.getD_cons_succ, List.set_cons_zero, List.set_cons_succ, List.cons_append, List.nil_append, List.replicate_succ, List.replicate_zero, Nat.reduceSub, Nat.reduceAdd, Nat.reduceLT, plain_no, plain_val, plain_ov, Int.natCast_zero, Int.ofNat_zero, Int.cast_ofNat_Int, decide_eq_true_eq, decide_eq_false_iff_not, Bool.not_eq_true', Bool.not_eq_false', Bool.not_true, Bool.not_false, if_true, if_false, true_and, and_true, forall_const, decide_true, decide_false, Int.toNat_natCast, Int.reduceEq, Int.reduceNe, Int.reduceLT, Int.reduceLE, Int.zero_add, implies_true, true_implies, not_true_eq_false, not_false_eq_true, false_implies, false_and, and_false, reduceCtorEq, ite_true, ite_false, eq_self, List.length_cons, List.length_nil, oz_own, oz_val, pl_3, pl_4, wipe_3, wipe_4, unw_3, unw_4, hm, chstep hs, e1, dk (show 1 ≤ s + 1 by omega) (by omega), fdiv_nat]
      exact ⟨some (.int s), rfl⟩
    · rintro _ ⟨o3, rfl⟩
      simp only [↓wO_some, ↓wO_none, ↓wSl_0, ↓wSl_s, ↓wP_0, ↓wP_s, ↓kW_no, ↓kW_val, ↓kW_own, ↓kW_ov, ↓wO_setSlot, ↓wE_C, ↓kB_val, ↓kB_own, ↓kB_io, ↓wE_B, ↓kV_val, ↓kV_own, ↓wE_V, ↓kM_val, ↓kM_own, ↓wE_M, ↓kF_fz, ↓kF_bw, ↓kF_fr, ↓wE_F, ↓wR_fz, ↓kCt_val, ↓kCt_own, ↓kCt_io, ↓wR_bw, ↓wE_bin, ↓wE_un, ↓wA_nil, ↓kA_fz, ↓kA_bw, ↓kA_fr, ↓wA_cons, ↓wRs_nil, ↓wRs_cons, ↓wE_args, ↓wZ_nil, ↓wZ_cons, ↓kSz_0, ↓kSz_1, ↓kSz_2, ↓kSz_3, ↓kSz_4, ↓kSz_5, ↓kSz_6, ↓kSz_7, ↓kSz_8, ↓wE_tup, ↓wE_lst, ↓kT_bool, ↓wT_tst, ↓wT_and, ↓wT_or, ↓wT_not, ↓wT_yes, ↓wE_bool, ↓wE_if, ↓kAs_val, ↓kAs_own, ↓kAs_io, ↓wAs_nil, ↓wAs_fz, ↓wAs_bw, ↓kOut_nil, ↓kOut_nilr, ↓kPut_own, ↓kPut_io, ↓kOut_one, ↓kOut_oner, ↓wE_call, ↓w_add, ↓w_sub, ↓w_mul, ↓w_mulI, ↓w_fdiv, ↓w_mod, ↓w_neg, ↓w_lt, ↓w_le, ↓w_gt, ↓w_ge, ↓w_eq, ↓w_ne, ↓w_abs, ↓w_min2, ↓w_max2, ↓w_int, ↓w_intb, ↓w_pow, ↓w_lenL, ↓w_lenT, ↓w_ixL, ↓w_ixT, ↓w_tupL, ↓w_tupT, ↓w_listL, ↓w_listT, ↓kS_nx, ↓kS_bk, ↓kS_rt, ↓wS_nx, ↓wS_bk, ↓wS_seq, ↓kSt_fz, ↓kSt_fr, ↓wS_set, ↓kR_fz, ↓kR_fr, ↓wS_ret, ↓wS_retN, ↓wS_drop, ↓wS_if, ↓kAg_val, ↓wS_aug, ↓wG_N, ↓wG_T, ↓wGs_nil, ↓wGs_cons, ↓kIt_L, ↓kIt_T, ↓wI_seq, ↓kG1_i, ↓wI_rg1, ↓kG2_i, ↓wI_rg2, ↓wS_for, ↓wS_while, ↓kAz_fz, ↓wS_asg, ↓kL_nx, ↓kL_bk, ↓kL_rt, ↓wE_comp, ↓wU_nil, ↓wU_io, ↓wU_val, ↓kFn_fz, ↓kFn_fr, ↓kFn_nx, ↓wM_append, ↓wM_pop, ↓wM_rev, ↓wM_ins, ↓wM_popAt, ↓kMt_own, ↓kMt_io, ↓wE_mut, ↓wE_mut0, ↓kSi_i, ↓kSo_fz, ↓wS_store, ↓wE_meth, ↓w_addLL, ↓w_addTT, ↓w_mulLI, ↓w_mulTI, ↓w_inTI, ↓w_inLI, ↓w_inTN, ↓w_inLN, ↓w_sumTI, ↓w_sumLI, ↓w_sumTN, ↓w_sumLN, ↓w_cntTI, ↓w_cntTN, ↓w_cntLI, ↓w_cntLN, ↓kTR1_i, ↓kLR1_i, ↓wE_tupRg1, ↓wE_listRg1, ↓kTR2b_i, ↓kTR2_i, ↓kLR2b_i, ↓kLR2_i, ↓w_isN_none, ↓w_isN_bool, ↓w_isN_int, ↓w_isN_str, ↓w_isN_tuple, ↓w_notN_none, ↓w_notN_bool, ↓w_notN_int, ↓w_notN_str, ↓w_notN_tuple, ↓w_eqb, ↓w_eqLN, ↓w_neLN, ↓w_eqTN, ↓w_neTN, ↓w_neb, ↓w_isB, ↓w_notB, ↓w_revL, ↓w_iadd, ↓kW_oz, ↓kPar_2, ↓wS_par, ↓kCh2_b, ↓kCh_fz, ↓wE_chain, ↓w_gcd, ↓kSS_fz, ↓wE_sortSet, ↓w_sortSetI, ↓w_sortSetN, ↓wX_no, ↓kOI_i, ↓wX_yes, ↓wE_sl, ↓w_slT, ↓w_slL, ↓ats0, ↓ats1, ↓ats2, ↓ats3, ↓w_eqOI, ↓w_neOI, ↓w_eqOO, ↓w_isOI, ↓w_notOI, ↓w_revTL, ↓w_revTT, ↓kAuZ_fz, ↓kAuS_i, ↓wS_augS, ↓kEx_fr, ↓kEx_bw, ↓wS_ext, ↓kOn_fz, ↓wE_onFz, ↓w_ss2T, ↓w_ss2L, ↓w_ss2TN, ↓w_ss2LN, ↓w_lsT, ↓w_lsL, ↓w_srtI, ↓w_srtN, ↓w_srtTI, ↓w_srtTN, ↓w_srtP, ↓kG3_i, ↓wI_rg3, ↓wE_comp2, pl_1, pl_2, wipe_1, wipe_2, unw_1, unw_2, List.getD_cons_zero, List.getD_cons_succ, List.set_cons_zero, List.set_cons_succ, List.cons_append, List.nil_append, List.replicate_succ, List.replicate_zero, Nat.reduceSub, Nat.reduceAdd, Nat.reduceLT, plain_no, plain_val, plain_ov, Int.natCast_zero, Int.ofNat_zero, Int.cast_ofNat_Int, decide_eq_true_eq, decide_eq_false_iff_not, Bool.not_eq_true', Bool.not_eq_false', Bool.not_true, Bool.not_false, if_true, if_false, true_and, and_true, forall_const, decide_true, decide_false, Int.toNat_natCast, Int.reduceEq, Int.reduceNe, Int.reduceLT, Int.reduceLE, Int.zero_add, implies_true, true_implies, not_true_eq_false, not_false_eq_true, false_implies, false_and, and_false, reduceCtorEq, ite_true, ite_false, eq_self, List.length_cons, List.length_nil, oz_own, oz_val, pl_3, pl_4, wipe_3, wipe_4, unw_3, unw_4]
  · rw [if_neg (fun z => by omega)]; rfl
/-! ### fractions -/
theorem dle_iff {a b c d : Nat} (hb : 0 < b) (hd : 0 < d) : Rat.divInt (a : Nat) (b : Nat) ≤ Rat.divInt (c : Nat) (d : Nat) ↔ a * d ≤ c * b := by
  rw [Rat.le_iff_sub_nonneg, Rat.divInt_sub_divInt _ _ (by omega) (by omega), Rat.divInt_nonneg_iff_of_pos_right (Int.mul_pos (by omega) (by omega))]
  have e1 : ((a : Nat) : Int) * (d : Nat) = ((a * d : Nat) : Int) := by push_cast; rfl
  have e2 : ((c : Nat) : Int) * (b : Nat) = ((c * b : Nat) : Int) := by push_cast; rfl
  rw [e1, e2]; omega
theorem deq_iff {a b c d : Nat} (hb : 0 < b) (hd : 0 < d) : Rat.divInt (a : Nat) (b : Nat) = Rat.divInt (c : Nat) (d : Nat) ↔ a * d = c * b := by
  rw [Rat.divInt_eq_divInt_iff (by omega) (by omega)]
  have e1 : ((a : Nat) : Int) * (d : Nat) = ((a * d : Nat) : Int) := by push_cast; rfl
  have e2 : ((c : Nat) : Int) * (b : Nat) = ((c * b : Nat) : Int) := by push_cast; rfl
  rw [e1, e2]; omega
theorem fr_inj {p q : Rat} (h : fr p = fr q) : p = q := by
  unfold fr at h
  injection h with h
  injection h with h1 h2
  injection h2 with h2 _
  injection h1 with h1
  injection h2 with h2
  exact Rat.ext h1 (by omega)
theorem eqv_fr (p q : Rat) : PyData.eqv (fr p) (fr q) = decide (p = q) := by
  have h : PyData.eqv (fr p) (fr q) = (decide (p.num = q.num) && (decide ((p.den : Int) = q.den) && true)) := rfl
  rw [h, Bool.and_true]
  by_cases e : p = q
  · subst e; simp
  · rw [decide_eq_false e]
    by_cases e1 : p.num = q.num
    · have : ¬ (p.den : Int) = q.den := fun z => e (Rat.ext e1 (by omega))
      simp [this]
    · simp [e1]
theorem w_eqF (p q : Rat) (Q : RV → Prop) : wO (eqD (fr p) (fr q)) Q = Q (.fz (.bool (decide (p = q)))) := by
  show wO (if _ then _ else _) Q = _
  rw [wO_if, (fr_pl 0 p).shaped (by decide), (fr_pl 0 q).shaped (by decide), rB, wO_some, eqv_fr]; simp
theorem w_neF (p q : Rat) (Q : RV → Prop) : wO (neD (fr p) (fr q)) Q = Q (.fz (.bool (!decide (p = q)))) := by
  show wO (if _ then _ else _) Q = _
  rw [wO_if, (fr_pl 0 p).shaped (by decide), (fr_pl 0 q).shaped (by decide), rB, wO_some, eqv_fr]; simp
/-! ### audits -/
def foundQ (n b k f : Int) : Rat := Rat.divInt ((chI b f * chI (n - b) (k - f) : Nat) : Int) ((chI n k : Nat) : Int)
theorem nat_sz {a k : Nat} (h : a < 2 ^ k) : ((a : Nat) : Int).natAbs < 2 ^ k := by rw [Int.natAbs_natCast]; exact h
theorem mul400 {a b : Nat} (ha : a < 2 ^ 400) (hb : b < 2 ^ 400) : mulOk ((a : Nat) : Int) ((b : Nat) : Int) = true := mulOk_sz (nat_sz ha) (nat_sz hb) (by decide)
theorem found_sz {n b k f : Int} (hn : n ≤ 64) (hb : 0 ≤ b) (hbn : b ≤ n) (hc : 0 < chI n k) : Sz (foundQ n b k f) 800 := by
  unfold foundQ
  refine Sz.divInt ?_ (nat_sz (Nat.lt_trans (chI_lt hn) (by decide +kernel))) (by omega)
  have h1 : chI b f < 2 ^ 400 := chI_lt (by omega)
  have h2 : chI (n - b) (k - f) < 2 ^ 400 := chI_lt (by omega)
  rw [Int.natCast_mul]
  exact natAbs_mul_lt (nat_sz h1) (nat_sz h2)
theorem found_eq (n b k f : Int) (hn : n ≤ 64) (hb : 0 ≤ b) (hbn : b ≤ n) (hc : 0 < chI n k) : F_chance_found [.val (.int n), .val (.int b), .val (.int k), .val (.int f)] = some (.fz (fr (foundQ n b k f)), []) := by
  refine eq_of_wO (wO_fn rfl ?_)
  unfold B_chance_found foundQ
  have hf := fraction_eq ((chI b f : Nat) * (chI (n - b) (k - f) : Nat)) (chI n k : Nat) (by omega) (nat_sz (Nat.lt_trans (chI_lt hn) (by decide +kernel)))
  simp only [↓wO_some, ↓wO_none, ↓wSl_0, ↓wSl_s, ↓wP_0, ↓wP_s, ↓kW_no, ↓kW_val, ↓kW_own, ↓kW_ov, ↓wO_setSlot, ↓wE_C, ↓kB_val, ↓kB_own, ↓kB_io, ↓wE_B, ↓kV_val, ↓kV_own, ↓wE_V, ↓kM_val, ↓kM_own, ↓wE_M, ↓kF_fz, ↓kF_bw, ↓kF_fr, ↓wE_F, ↓wR_fz, ↓kCt_val, ↓kCt_own, ↓kCt_io, ↓wR_bw, ↓wE_bin, ↓wE_un, ↓wA_nil, ↓kA_fz, ↓kA_bw, ↓kA_fr, ↓wA_cons, ↓wRs_nil, ↓wRs_cons, ↓wE_args, ↓wZ_nil, ↓wZ_cons, ↓kSz_0, ↓kSz_1, ↓kSz_2, ↓kSz_3, ↓kSz_4, ↓kSz_5, ↓kSz_6, ↓kSz_7, ↓kSz_8, ↓wE_tup, ↓wE_lst, ↓kT_bool, ↓wT_tst, ↓wT_and, ↓wT_or, ↓wT_not, ↓wT_yes, ↓wE_bool, ↓wE_if, ↓kAs_val, ↓kAs_own, ↓kAs_io, ↓wAs_nil, ↓wAs_fz, ↓wAs_bw, ↓kOut_nil, ↓kOut_nilr, ↓kPut_own, ↓kPut_io, ↓kOut_one, ↓kOut_oner, ↓wE_call, ↓w_add, ↓w_sub, ↓w_mul, ↓w_mulI, ↓w_fdiv, ↓w_mod, ↓w_neg, ↓w_lt, ↓w_le, ↓w_gt, ↓w_ge, ↓w_eq, ↓w_ne, ↓w_abs, ↓w_min2, ↓w_max2, ↓w_int, ↓w_intb, ↓w_pow, ↓w_lenL, ↓w_lenT, ↓w_ixL, ↓w_ixT, ↓w_tupL, ↓w_tupT, ↓w_listL, ↓w_listT, ↓kS_nx, ↓kS_bk, ↓kS_rt, ↓wS_nx, ↓wS_bk, ↓wS_seq, ↓kSt_fz, ↓kSt_fr, ↓wS_set, ↓kR_fz, ↓kR_fr, ↓wS_ret, ↓wS_retN, ↓wS_drop, ↓wS_if, ↓kAg_val, ↓wS_aug, ↓wG_N, ↓wG_T, ↓wGs_nil, ↓wGs_cons, ↓kIt_L, ↓kIt_T, ↓wI_seq, ↓kG1_i, ↓wI_rg1, ↓kG2_i, ↓wI_rg2, ↓wS_for, ↓wS_while, ↓kAz_fz, ↓wS_asg, ↓kL_nx, ↓kL_bk, ↓kL_rt, ↓wE_comp, ↓wU_nil, ↓wU_io, ↓wU_val, ↓kFn_fz, ↓kFn_fr, ↓kFn_nx, ↓wM_append, ↓wM_pop, ↓wM_rev, ↓wM_ins, ↓wM_popAt, ↓kMt_own, ↓kMt_io, ↓wE_mut, ↓wE_mut0, ↓kSi_i, ↓kSo_fz, ↓wS_store, ↓wE_meth, ↓w_addLL, ↓w_addTT, ↓w_mulLI, ↓w_mulTI, ↓w_inTI, ↓w_inLI, ↓w_inTN, ↓w_inLN, ↓w_sumTI, ↓w_sumLI, ↓w_sumTN, ↓w_sumLN, ↓w_cntTI, ↓w_cntTN, ↓w_cntLI, ↓w_cntLN, ↓kTR1_i, ↓kLR1_i, ↓wE_tupRg1, ↓wE_listRg1, ↓kTR2b_i, ↓kTR2_i, ↓kLR2b_i, ↓kLR2_i, ↓w_isN_none, ↓w_isN_bool, ↓w_isN_int, ↓w_isN_str, ↓w_isN_tuple, ↓w_notN_none, ↓w_notN_bool, ↓w_notN_int, ↓w_notN_str, ↓w_notN_tuple, ↓w_eqb, ↓w_eqLN, ↓w_neLN, ↓w_eqTN, ↓w_neTN, ↓w_neb, ↓w_isB, ↓w_notB, ↓w_revL, ↓w_iadd, ↓kW_oz, ↓kPar_2, ↓wS_par, ↓kCh2_b, ↓kCh_fz, ↓wE_chain, ↓w_gcd, ↓kSS_fz, ↓wE_sortSet, ↓w_sortSetI, ↓w_sortSetN, ↓wX_no, ↓kOI_i, ↓wX_yes, ↓wE_sl, ↓w_slT, ↓w_slL, ↓ats0, ↓ats1, ↓ats2, ↓ats3, ↓w_eqOI, ↓w_neOI, ↓w_eqOO, ↓w_isOI, ↓w_notOI, ↓w_revTL, ↓w_revTT, ↓kAuZ_fz, ↓kAuS_i, ↓wS_augS, ↓kEx_fr, ↓kEx_bw, ↓wS_ext, ↓kOn_fz, ↓wE_onFz, ↓w_ss2T, ↓w_ss2L, ↓w_ss2TN, ↓w_ss2LN, ↓w_lsT, ↓w_lsL, ↓w_srtI, ↓w_srtN, ↓w_srtTI, ↓w_srtTN, ↓w_srtP, ↓kG3_i, ↓wI_rg3, ↓wE_comp2, pl_1, pl_2, wipe_1, wipe_2, unw_1, unw_2, List.getD_cons_zero, List.getD_cons_succ, List.set_cons_zero, List.set_cons_succ, List.cons_append, List.nil_append, List.replicate_succ, List.replicate_zero, Nat.reduceSub, Nat.reduceAdd, Nat.reduceLT, plain_no, plain_val, plain_ov, Int.natCast_zero, Int.ofNat_zero, Int.cast_ofNat_Int, decide_eq_true_eq, decide_eq_false_iff_not, Bool.not_eq_true', Bool.not_eq_false', Bool.not_true, Bool.not_false, if_true, if_false, true_and, and_true, forall_const, decide_true, decide_false, Int.toNat_natCast, Int.reduceEq, Int.reduceNe, Int.reduceLT, Int.reduceLE, Int.zero_add, implies_true, true_implies, not_true_eq_false, not_false_eq_true, false_implies, false_and, and_false, reduceCtorEq, ite_true, ite_false, eq_self, List.length_cons, List.length_nil, oz_own, oz_val, pl_3, pl_4, wipe_3, wipe_4, unw_3, unw_4, choices_eq b f (by omega), choices_eq (n - b) (k - f) (by omega), choices_eq n k (by omega), mul400 (chI_lt (n := b) (k := f) (by omega)) (chI_lt (n := n - b) (k := k - f) (by omega)), hf]
  rw [Int.natCast_mul]
theorem none_eq (n b k : Int) (hn : n ≤ 64) (hb : 0 ≤ b) (hbn : b ≤ n) (hc : 0 < chI n k) : F_chance_none_found [.val (.int n), .val (.int b), .val (.int k)] = some (.fz (fr (foundQ n b k 0)), []) := by
  refine eq_of_wO (wO_fn rfl ?_)
  unfold B_chance_none_found
  simp only [↓wO_some, ↓wO_none, ↓wSl_0, ↓wSl_s, ↓wP_0, ↓wP_s, ↓kW_no, ↓kW_val, ↓kW_own, ↓kW_ov, ↓wO_setSlot, ↓wE_C, ↓kB_val, ↓kB_own, ↓kB_io, ↓wE_B, ↓kV_val, ↓kV_own, ↓wE_V, ↓kM_val, ↓kM_own, ↓wE_M, ↓kF_fz, ↓kF_bw, ↓kF_fr, ↓wE_F, ↓wR_fz, ↓kCt_val, ↓kCt_own, ↓kCt_io, ↓wR_bw, ↓wE_bin, ↓wE_un, ↓wA_nil, ↓kA_fz, ↓kA_bw, ↓kA_fr, ↓wA_cons, ↓wRs_nil, ↓wRs_cons, ↓wE_args, ↓wZ_nil, ↓wZ_cons, ↓kSz_0, ↓kSz_1, ↓kSz_2, ↓kSz_3, ↓kSz_4, ↓kSz_5, ↓kSz_6, ↓kSz_7, ↓kSz_8, ↓wE_tup, ↓wE_lst, ↓kT_bool, ↓wT_tst, ↓wT_and, ↓wT_or, ↓wT_not, ↓wT_yes, ↓wE_bool, ↓wE_if, ↓kAs_val, ↓kAs_own, ↓kAs_io, ↓wAs_nil, ↓wAs_fz, ↓wAs_bw, ↓kOut_nil, ↓kOut_nilr, ↓kPut_own, ↓kPut_io, ↓kOut_one, ↓kOut_oner, ↓wE_call, ↓w_add, ↓w_sub, ↓w_mul, ↓w_mulI, ↓w_fdiv, ↓w_mod, ↓w_neg, ↓w_lt, ↓w_le, ↓w_gt, ↓w_ge, ↓w_eq, ↓w_ne, ↓w_abs, ↓w_min2, ↓w_max2, ↓w_int, ↓w_intb, ↓w_pow, ↓w_lenL, ↓w_lenT, ↓w_ixL, ↓w_ixT, ↓w_tupL, ↓w_tupT, ↓w_listL, ↓w_listT, ↓kS_nx, ↓kS_bk, ↓kS_rt, ↓wS_nx, ↓wS_bk, ↓wS_seq, ↓kSt_fz, ↓kSt_fr, ↓wS_set, ↓kR_fz, ↓kR_fr, ↓wS_ret, ↓wS_retN, ↓wS_drop, ↓wS_if, ↓kAg_val, ↓wS_aug, ↓wG_N, ↓wG_T, ↓wGs_nil, ↓wGs_cons, ↓kIt_L, ↓kIt_T, ↓wI_seq, ↓kG1_i, ↓wI_rg1, ↓kG2_i, ↓wI_rg2, ↓wS_for, ↓wS_while, ↓kAz_fz, ↓wS_asg, ↓kL_nx, ↓kL_bk, ↓kL_rt, ↓wE_comp, ↓wU_nil, ↓wU_io, ↓wU_val, ↓kFn_fz, ↓kFn_fr, ↓kFn_nx, ↓wM_append, ↓wM_pop, ↓wM_rev, ↓wM_ins, ↓wM_popAt, ↓kMt_own, ↓kMt_io, ↓wE_mut, ↓wE_mut0, ↓kSi_i, ↓kSo_fz, ↓wS_store, ↓wE_meth, ↓w_addLL, ↓w_addTT, ↓w_mulLI, ↓w_mulTI, ↓w_inTI, ↓w_inLI, ↓w_inTN, ↓w_inLN, ↓w_sumTI, ↓w_sumLI, ↓w_sumTN, ↓w_sumLN, ↓w_cntTI, ↓w_cntTN, ↓w_cntLI, ↓w_cntLN, ↓kTR1_i, ↓kLR1_i, ↓wE_tupRg1, ↓wE_listRg1, ↓kTR2b_i, ↓kTR2_i, ↓kLR2b_i, ↓kLR2_i, ↓w_isN_none, ↓w_isN_bool, ↓w_isN_int, ↓w_isN_str, ↓w_isN_tuple, ↓w_notN_none, ↓w_notN_bool, ↓w_notN_int, ↓w_notN_str, ↓w_notN_tuple, ↓w_eqb, ↓w_eqLN, ↓w_neLN, ↓w_eqTN, ↓w_neTN, ↓w_neb, ↓w_isB, ↓w_notB, ↓w_revL, ↓w_iadd, ↓kW_oz, ↓kPar_2, ↓wS_par, ↓kCh2_b, ↓kCh_fz, ↓wE_chain, ↓w_gcd, ↓kSS_fz, ↓wE_sortSet, ↓w_sortSetI, ↓w_sortSetN, ↓wX_no, ↓kOI_i, ↓wX_yes, ↓wE_sl, ↓w_slT, ↓w_slL, ↓ats0, ↓ats1, ↓ats2, ↓ats3, ↓w_eqOI, ↓w_neOI, ↓w_eqOO, ↓w_isOI, ↓w_notOI, ↓w_revTL, ↓w_revTT, ↓kAuZ_fz, ↓kAuS_i, ↓wS_augS, ↓kEx_fr, ↓kEx_bw, ↓wS_ext, ↓kOn_fz, ↓wE_onFz, ↓w_ss2T, ↓w_ss2L, ↓w_ss2TN, ↓w_ss2LN, ↓w_lsT, ↓w_lsL, ↓w_srtI, ↓w_srtN, ↓w_srtTI, ↓w_srtTN, ↓w_srtP, ↓kG3_i, ↓wI_rg3, ↓wE_comp2, pl_1, pl_2, wipe_1, wipe_2, unw_1, unw_2, List.getD_cons_zero, List.getD_cons_succ, List.set_cons_zero, List.set_cons_succ, List.cons_append, List.nil_append, List.replicate_succ, List.replicate_zero, Nat.reduceSub, Nat.reduceAdd, Nat.reduceLT, plain_no, plain_val, plain_ov, Int.natCast_zero, Int.ofNat_zero, Int.cast_ofNat_Int, decide_eq_true_eq, decide_eq_false_iff_not, Bool.not_eq_true', Bool.not_eq_false', Bool.not_true, Bool.not_false, if_true, if_false, true_and, and_true, forall_const, decide_true, decide_false, Int.toNat_natCast, Int.reduceEq, Int.reduceNe, Int.reduceLT, Int.reduceLE, Int.zero_add, implies_true, true_implies, not_true_eq_false, not_false_eq_true, false_implies, false_and, and_false, reduceCtorEq, ite_true, ite_false, eq_self, List.length_cons, List.length_nil, oz_own, oz_val, pl_3, pl_4, wipe_3, wipe_4, unw_3, unw_4, found_eq n b k 0 hn hb hbn hc]
theorem enough_eq (n b k : Int) (q : Rat) (hq : Sz q 8000) (hn : n ≤ 64) (hb : 0 ≤ b) (hbn : b ≤ n) (hc : 0 < chI n k) : F_is_enough [.val (.int n), .val (.int b), .val (.int k), .val (fr q)] = some (.fz (.bool (decide (foundQ n b k 0 ≤ q))), []) := by
  refine eq_of_wO (wO_fn rfl ?_)
  unfold B_is_enough
  simp only [↓wO_some, ↓wO_none, ↓wSl_0, ↓wSl_s, ↓wP_0, ↓wP_s, ↓kW_no, ↓kW_val, ↓kW_own, ↓kW_ov, ↓wO_setSlot, ↓wE_C, ↓kB_val, ↓kB_own, ↓kB_io, ↓wE_B, ↓kV_val, ↓kV_own, ↓wE_V, ↓kM_val, ↓kM_own, ↓wE_M, ↓kF_fz, ↓kF_bw, ↓kF_fr, ↓wE_F, ↓wR_fz, ↓kCt_val, ↓kCt_own, ↓kCt_io, ↓wR_bw, ↓wE_bin, ↓wE_un, ↓wA_nil, ↓kA_fz, ↓kA_bw, ↓kA_fr, ↓wA_cons, ↓wRs_nil, ↓wRs_cons, ↓wE_args, ↓wZ_nil, ↓wZ_cons, ↓kSz_0, ↓kSz_1, ↓kSz_2, ↓kSz_3, ↓kSz_4, ↓kSz_5, ↓kSz_6, ↓kSz_7, ↓kSz_8, ↓wE_tup, ↓wE_lst, ↓kT_bool, ↓wT_tst, ↓wT_and, ↓wT_or, ↓wT_not, ↓wT_yes, ↓wE_bool, ↓wE_if, ↓kAs_val, ↓kAs_own, ↓kAs_io, ↓wAs_nil, ↓wAs_fz, ↓wAs_bw, ↓kOut_nil, ↓kOut_nilr, ↓kPut_own, ↓kPut_io, ↓kOut_one, ↓kOut_oner, ↓wE_call, ↓w_add, ↓w_sub, ↓w_mul, ↓w_mulI, ↓w_fdiv, ↓w_mod, ↓w_neg, ↓w_lt, ↓w_le, ↓w_gt, ↓w_ge, ↓w_eq, ↓w_ne, ↓w_abs, ↓w_min2, ↓w_max2, ↓w_int, ↓w_intb, ↓w_pow, ↓w_lenL, ↓w_lenT, ↓w_ixL, ↓w_ixT, ↓w_tupL, ↓w_tupT, ↓w_listL, ↓w_listT, ↓kS_nx, ↓kS_bk, ↓kS_rt, ↓wS_nx, ↓wS_bk, ↓wS_seq, ↓kSt_fz, ↓kSt_fr, ↓wS_set, ↓kR_fz, ↓kR_fr, ↓wS_ret, ↓wS_retN, ↓wS_drop, ↓wS_if, ↓kAg_val, ↓wS_aug, ↓wG_N, ↓wG_T, ↓wGs_nil, ↓wGs_cons, ↓kIt_L, ↓kIt_T, ↓wI_seq, ↓kG1_i, ↓wI_rg1, ↓kG2_i, ↓wI_rg2, ↓wS_for, ↓wS_while, ↓kAz_fz, ↓wS_asg, ↓kL_nx, ↓kL_bk, ↓kL_rt, ↓wE_comp, ↓wU_nil, ↓wU_io, ↓wU_val, ↓kFn_fz, ↓kFn_fr, ↓kFn_nx, ↓wM_append, ↓wM_pop, ↓wM_rev, ↓wM_ins, ↓wM_popAt, ↓kMt_own, ↓kMt_io, ↓wE_mut, ↓wE_mut0, ↓kSi_i, ↓kSo_fz, ↓wS_store, ↓wE_meth, ↓w_addLL, ↓w_addTT, ↓w_mulLI, ↓w_mulTI, ↓w_inTI, ↓w_inLI, ↓w_inTN, ↓w_inLN, ↓w_sumTI, ↓w_sumLI, ↓w_sumTN, ↓w_sumLN, ↓w_cntTI, ↓w_cntTN, ↓w_cntLI, ↓w_cntLN, ↓kTR1_i, ↓kLR1_i, ↓wE_tupRg1, ↓wE_listRg1, ↓kTR2b_i, ↓kTR2_i, ↓kLR2b_i, ↓kLR2_i, ↓w_isN_none, ↓w_isN_bool, ↓w_isN_int, ↓w_isN_str, ↓w_isN_tuple, ↓w_notN_none, ↓w_notN_bool, ↓w_notN_int, ↓w_notN_str, ↓w_notN_tuple, ↓w_eqb, ↓w_eqLN, ↓w_neLN, ↓w_eqTN, ↓w_neTN, ↓w_neb, ↓w_isB, ↓w_notB, ↓w_revL, ↓w_iadd, ↓kW_oz, ↓kPar_2, ↓wS_par, ↓kCh2_b, ↓kCh_fz, ↓wE_chain, ↓w_gcd, ↓kSS_fz, ↓wE_sortSet, ↓w_sortSetI, ↓w_sortSetN, ↓wX_no, ↓kOI_i, ↓wX_yes, ↓wE_sl, ↓w_slT, ↓w_slL, ↓ats0, ↓ats1, ↓ats2, ↓ats3, ↓w_eqOI, ↓w_neOI, ↓w_eqOO, ↓w_isOI, ↓w_notOI, ↓w_revTL, ↓w_revTT, ↓kAuZ_fz, ↓kAuS_i, ↓wS_augS, ↓kEx_fr, ↓kEx_bw, ↓wS_ext, ↓kOn_fz, ↓wE_onFz, ↓w_ss2T, ↓w_ss2L, ↓w_ss2TN, ↓w_ss2LN, ↓w_lsT, ↓w_lsL, ↓w_srtI, ↓w_srtN, ↓w_srtTI, ↓w_srtTN, ↓w_srtP, ↓kG3_i, ↓wI_rg3, ↓wE_comp2, pl_1, pl_2, wipe_1, wipe_2, unw_1, unw_2, List.getD_cons_zero, List.getD_cons_succ, List.set_cons_zero, List.set_cons_succ, List.cons_append, List.nil_append, List.replicate_succ, List.replicate_zero, Nat.reduceSub, Nat.reduceAdd, Nat.reduceLT, plain_no, plain_val, plain_ov, Int.natCast_zero, Int.ofNat_zero, Int.cast_ofNat_Int, decide_eq_true_eq, decide_eq_false_iff_not, Bool.not_eq_true', Bool.not_eq_false', Bool.not_true, Bool.not_false, if_true, if_false, true_and, and_true, forall_const, decide_true, decide_false, Int.toNat_natCast, Int.reduceEq, Int.reduceNe, Int.reduceLT, Int.reduceLE, Int.zero_add, implies_true, true_implies, not_true_eq_false, not_false_eq_true, false_implies, false_and, and_false, reduceCtorEq, ite_true, ite_false, eq_self, List.length_cons, List.length_nil, oz_own, oz_val, pl_3, pl_4, wipe_3, wipe_4, unw_3, unw_4, none_eq n b k hn hb hbn hc, is_less_eq hq (found_sz hn hb hbn hc) (by decide : 8000 + 800 ≤ 900000)]
  congr 3
  by_cases h : q < foundQ n b k 0
  · rw [decide_eq_true h, decide_eq_false (Rat.not_le.mpr h)]; rfl
  · rw [decide_eq_false h, decide_eq_true (Rat.not_lt.mp h)]; rfl
theorem chl_zero {n : Nat} : ∀ {k : Nat}, n < k → chl n k = 0
  | 0, h => by omega
  | k + 1, h => by
    show chl n k * (n - k) / (k + 1) = 0
    by_cases h2 : n < k
    · rw [chl_zero h2]; simp
    · rw [show n - k = 0 by omega]; simp
theorem chI_nat (n k : Nat) : chI (n : Int) (k : Int) = chl n k := by
  unfold chI
  by_cases h : k ≤ n
  · rw [if_pos ⟨by omega, by omega⟩, Int.toNat_natCast, Int.toNat_natCast]
  · rw [if_neg (by omega), chl_zero (by omega)]
/-- the first number of looks that is enough, as the code finds it -/
def fits (n b : Nat) (q : Rat) : List Nat := (List.range (n + 1)).filter fun k => decide (foundQ n b k 0 ≤ q)
theorem needed_eq (n b : Nat) (q : Rat) (hq : Sz q 8000) (hn : n ≤ 64) (hbn : b ≤ n) (hc : ∀ k : Nat, k ≤ n → 0 < chl n k) : F_looks_needed [.val (.int n), .val (.int b), .val (fr q)] = some (.fz (match fits n b q with | [] => .none | k :: _ => nI k), []) := by
  refine eq_of_wO (wO_fn rfl ?_)
  unfold B_looks_needed
  have e1 : (n : Int) + 1 = ((n + 1 : Nat) : Int) := by omega
  simp only [↓wO_some, ↓wO_none, ↓wSl_0, ↓wSl_s, ↓wP_0, ↓wP_s, ↓kW_no, ↓kW_val, ↓kW_own, ↓kW_ov, ↓wO_setSlot, ↓wE_C, ↓kB_val, ↓kB_own, ↓kB_io, ↓wE_B, ↓kV_val, ↓kV_own, ↓wE_V, ↓kM_val, ↓kM_own, ↓wE_M, ↓kF_fz, ↓kF_bw, ↓kF_fr, ↓wE_F, ↓wR_fz, ↓kCt_val, ↓kCt_own, ↓kCt_io, ↓wR_bw, ↓wE_bin, ↓wE_un, ↓wA_nil, ↓kA_fz, ↓kA_bw, ↓kA_fr, ↓wA_cons, ↓wRs_nil, ↓wRs_cons, ↓wE_args, ↓wZ_nil, ↓wZ_cons, ↓kSz_0, ↓kSz_1, ↓kSz_2, ↓kSz_3, ↓kSz_4, ↓kSz_5, ↓kSz_6, ↓kSz_7, ↓kSz_8, ↓wE_tup, ↓wE_lst, ↓kT_bool, ↓wT_tst, ↓wT_and, ↓wT_or, ↓wT_not, ↓wT_yes, ↓wE_bool, ↓wE_if, ↓kAs_val, ↓kAs_own, ↓kAs_io, ↓wAs_nil, ↓wAs_fz, ↓wAs_bw, ↓kOut_nil, ↓kOut_nilr, ↓kPut_own, ↓kPut_io, ↓kOut_one, ↓kOut_oner, ↓wE_call, ↓w_add, ↓w_sub, ↓w_mul, ↓w_mulI, ↓w_fdiv, ↓w_mod, ↓w_neg, ↓w_lt, ↓w_le, ↓w_gt, ↓w_ge, ↓w_eq, ↓w_ne, ↓w_abs, ↓w_min2, ↓w_max2, ↓w_int, ↓w_intb, ↓w_pow, ↓w_lenL, ↓w_lenT, ↓w_ixL, ↓w_ixT, ↓w_tupL, ↓w_tupT, ↓w_listL, ↓w_listT, ↓kS_nx, ↓kS_bk, ↓kS_rt, ↓wS_nx, ↓wS_bk, ↓wS_seq, ↓kSt_fz, ↓kSt_fr, ↓wS_set, ↓kR_fz, ↓kR_fr, ↓wS_ret, ↓wS_retN, ↓wS_drop, ↓wS_if, ↓kAg_val, ↓wS_aug, ↓wG_N, ↓wG_T, ↓wGs_nil, ↓wGs_cons, ↓kIt_L, ↓kIt_T, ↓wI_seq, ↓kG1_i, ↓wI_rg1, ↓kG2_i, ↓wI_rg2, ↓wS_for, ↓wS_while, ↓kAz_fz, ↓wS_asg, ↓kL_nx, ↓kL_bk, ↓kL_rt, ↓wE_comp, ↓wU_nil, ↓wU_io, ↓wU_val, ↓kFn_fz, ↓kFn_fr, ↓kFn_nx, ↓wM_append, ↓wM_pop, ↓wM_rev, ↓wM_ins, ↓wM_popAt, ↓kMt_own, ↓kMt_io, ↓wE_mut, ↓wE_mut0, ↓kSi_i, ↓kSo_fz, ↓wS_store, ↓wE_meth, ↓w_addLL, ↓w_addTT, ↓w_mulLI, ↓w_mulTI, ↓w_inTI, ↓w_inLI, ↓w_inTN, ↓w_inLN, ↓w_sumTI, ↓w_sumLI, ↓w_sumTN, ↓w_sumLN, ↓w_cntTI, ↓w_cntTN, ↓w_cntLI, ↓w_cntLN, ↓kTR1_i, ↓kLR1_i, ↓wE_tupRg1, ↓wE_listRg1, ↓kTR2b_i, ↓kTR2_i, ↓kLR2b_i, ↓kLR2_i, ↓w_isN_none, ↓w_isN_bool, ↓w_isN_int, ↓w_isN_str, ↓w_isN_tuple, ↓w_notN_none, ↓w_notN_bool, ↓w_notN_int, ↓w_notN_str, ↓w_notN_tuple, ↓w_eqb, ↓w_eqLN, ↓w_neLN, ↓w_eqTN, ↓w_neTN, ↓w_neb, ↓w_isB, ↓w_notB, ↓w_revL, ↓w_iadd, ↓kW_oz, ↓kPar_2, ↓wS_par, ↓kCh2_b, ↓kCh_fz, ↓wE_chain, ↓w_gcd, ↓kSS_fz, ↓wE_sortSet, ↓w_sortSetI, ↓w_sortSetN, ↓wX_no, ↓kOI_i, ↓wX_yes, ↓wE_sl, ↓w_slT, ↓w_slL, ↓ats0, ↓ats1, ↓ats2, ↓ats3, ↓w_eqOI, ↓w_neOI, ↓w_eqOO, ↓w_isOI, ↓w_notOI, ↓w_revTL, ↓w_revTT, ↓kAuZ_fz, ↓kAuS_i, ↓wS_augS, ↓kEx_fr, ↓kEx_bw, ↓wS_ext, ↓kOn_fz, ↓wE_onFz, ↓w_ss2T, ↓w_ss2L, ↓w_ss2TN, ↓w_ss2LN, ↓w_lsT, ↓w_lsL, ↓w_srtI, ↓w_srtN, ↓w_srtTI, ↓w_srtTN, ↓w_srtP, ↓kG3_i, ↓wI_rg3, ↓wE_comp2, pl_1, pl_2, wipe_1, wipe_2, unw_1, unw_2, List.getD_cons_zero, List.getD_cons_succ, List.set_cons_zero, List.set_cons_succ, List.cons_append, List.nil_append, List.replicate_succ, List.replicate_zero, Nat.reduceSub, Nat.reduceAdd, Nat.reduceLT, plain_no, plain_val, plain_ov, Int.natCast_zero, Int.ofNat_zero, Int.cast_ofNat_Int, decide_eq_true_eq, decide_eq_false_iff_not, Bool.not_eq_true', Bool.not_eq_false', Bool.not_true, Bool.not_false, if_true, if_false, true_and, and_true, forall_const, decide_true, decide_false, Int.toNat_natCast, Int.reduceEq, Int.reduceNe, Int.reduceLT, Int.reduceLE, Int.zero_add, implies_true, true_implies, not_true_eq_false, not_false_eq_true, false_implies, false_and, and_false, reduceCtorEq, ite_true, ite_false, eq_self, List.length_cons, List.length_nil, oz_own, oz_val, pl_3, pl_4, wipe_3, wipe_4, unw_3, unw_4, e1, rangeD_N]
  refine wC_map nI (fun k => decide (foundQ n b k 0 ≤ q)) nI (List.range (n + 1)) (fun k hk => ?_) ?_
  · have hk := List.mem_range.mp hk
    simp only [↓wO_some, ↓wO_none, ↓wSl_0, ↓wSl_s, ↓wP_0, ↓wP_s, ↓kW_no, ↓kW_val, ↓kW_own, ↓kW_ov, ↓wO_setSlot, ↓wE_C, ↓kB_val, ↓kB_own, ↓kB_io, ↓wE_B, ↓kV_val, ↓kV_own, ↓wE_V, ↓kM_val, ↓kM_own, ↓wE_M, ↓kF_fz, ↓kF_bw, ↓kF_fr, ↓wE_F, ↓wR_fz, ↓kCt_val, ↓kCt_own, ↓kCt_io, ↓wR_bw, ↓wE_bin, ↓wE_un, ↓wA_nil, ↓kA_fz, ↓kA_bw, ↓kA_fr, ↓wA_cons, ↓wRs_nil, ↓wRs_cons, ↓wE_args, ↓wZ_nil, ↓wZ_cons, ↓kSz_0, ↓kSz_1, ↓kSz_2, ↓kSz_3, ↓kSz_4, ↓kSz_5, ↓kSz_6, ↓kSz_7, ↓kSz_8, ↓wE_tup, ↓wE_lst, ↓kT_bool, ↓wT_tst, ↓wT_and, ↓wT_or, ↓wT_not, ↓wT_yes, ↓wE_bool, ↓wE_if, ↓kAs_val, ↓kAs_own, ↓kAs_io, ↓wAs_nil, ↓wAs_fz, ↓wAs_bw, ↓kOut_nil, ↓kOut_nilr, ↓kPut_own, ↓kPut_io, ↓kOut_one, ↓kOut_oner, ↓wE_call, ↓w_add, ↓w_sub, ↓w_mul, ↓w_mulI, ↓w_fdiv, ↓w_mod, ↓w_neg, ↓w_lt, ↓w_le, ↓w_gt, ↓w_ge, ↓w_eq, ↓w_ne, ↓w_abs, ↓w_min2, ↓w_max2, ↓w_int, ↓w_intb, ↓w_pow, ↓w_lenL, ↓w_lenT, ↓w_ixL, ↓w_ixT, ↓w_tupL, ↓w_tupT, ↓w_listL, ↓w_listT, ↓kS_nx, ↓kS_bk, ↓kS_rt, ↓wS_nx, ↓wS_bk, ↓wS_seq, ↓kSt_fz, ↓kSt_fr, ↓wS_set, ↓kR_fz, ↓kR_fr, ↓wS_ret, ↓wS_retN, ↓wS_drop, ↓wS_if, ↓kAg_val, ↓wS_aug, ↓wG_N, ↓wG_T, ↓wGs_nil, ↓wGs_cons, ↓kIt_L, ↓kIt_T, ↓wI_seq, ↓kG1_i, ↓wI_rg1, ↓kG2_i, ↓wI_rg2, ↓wS_for, ↓wS_while, ↓kAz_fz, ↓wS_asg, ↓kL_nx, ↓kL_bk, ↓kL_rt, ↓wE_comp, ↓wU_nil, ↓wU_io, ↓wU_val, ↓kFn_fz, ↓kFn_fr, ↓kFn_nx, ↓wM_append, ↓wM_pop, ↓wM_rev, ↓wM_ins, ↓wM_popAt, ↓kMt_own, ↓kMt_io, ↓wE_mut, ↓wE_mut0, ↓kSi_i, ↓kSo_fz, ↓wS_store, ↓wE_meth, ↓w_addLL, ↓w_addTT, ↓w_mulLI, ↓w_mulTI, ↓w_inTI, ↓w_inLI, ↓w_inTN, ↓w_inLN, ↓w_sumTI, ↓w_sumLI, ↓w_sumTN, ↓w_sumLN, ↓w_cntTI, ↓w_cntTN, ↓w_cntLI, ↓w_cntLN, ↓kTR1_i, ↓kLR1_i, ↓wE_tupRg1, ↓wE_listRg1, ↓kTR2b_i, ↓kTR2_i, ↓kLR2b_i, ↓kLR2_i, ↓w_isN_none, ↓w_isN_bool, ↓w_isN_int, ↓w_isN_str, ↓w_isN_tuple, ↓w_notN_none, ↓w_notN_bool, ↓w_notN_int, ↓w_notN_str, ↓w_notN_tuple, ↓w_eqb, ↓w_eqLN, ↓w_neLN, ↓w_eqTN, ↓w_neTN, ↓w_neb, ↓w_isB, ↓w_notB, ↓w_revL, ↓w_iadd, ↓kW_oz, ↓kPar_2, ↓wS_par, ↓kCh2_b, ↓kCh_fz, ↓wE_chain, ↓w_gcd, ↓kSS_fz, ↓wE_sortSet, ↓w_sortSetI, ↓w_sortSetN, ↓wX_no, ↓kOI_i, ↓wX_yes, ↓wE_sl, ↓w_slT, ↓w_slL, ↓ats0, ↓ats1, ↓ats2, ↓ats3, ↓w_eqOI, ↓w_neOI, ↓w_eqOO, ↓w_isOI, ↓w_notOI, ↓w_revTL, ↓w_revTT, ↓kAuZ_fz, ↓kAuS_i, ↓wS_augS, ↓kEx_fr, ↓kEx_bw, ↓wS_ext, ↓kOn_fz, ↓wE_onFz, ↓w_ss2T, ↓w_ss2L, ↓w_ss2TN, ↓w_ss2LN, ↓w_lsT, ↓w_lsL, ↓w_srtI, ↓w_srtN, ↓w_srtTI, ↓w_srtTN, ↓w_srtP, ↓kG3_i, ↓wI_rg3, ↓wE_comp2, pl_1, pl_2, wipe_1, wipe_2, unw_1, unw_2, List.getD_cons_zero, List.getD_cons_succ, List.set_cons_zero, List.set_cons_succ, List.cons_append, List.nil_append, List.replicate_succ, List.replicate_zero, Nat.reduceSub, Nat.reduceAdd, Nat.reduceLT, plain_no, plain_val, plain_ov, Int.natCast_zero, Int.ofNat_zero, Int.cast_ofNat_Int, decide_eq_true_eq, decide_eq_false_iff_not, Bool.not_eq_true', Bool.not_eq_false', Bool.not_true, Bool.not_false, if_true, if_false, true_and, and_true, forall_const, decide_true, decide_false, Int.toNat_natCast, Int.reduceEq, Int.reduceNe, Int.reduceLT, Int.reduceLE, Int.zero_add, implies_true, true_implies, not_true_eq_false, not_false_eq_true, false_implies, false_and, and_false, reduceCtorEq, ite_true, ite_false, eq_self, List.length_cons, List.length_nil, oz_own, oz_val, pl_3, pl_4, wipe_3, wipe_4, unw_3, unw_4, nI_ap, enough_eq n b k q hq (by omega) (by omega) (by omega) (by rw [chI_nat]; exact hc k (by omega))]
    exact ⟨id, id⟩
  · have hl : (fits n b q).length ≤ 65 := filter_le (by rw [List.length_range]; omega)
    have ef : (List.range (n + 1)).filter (fun k : Nat => decide (foundQ n b k 0 ≤ q)) = fits n b q := rfl
    rw [ef]
    generalize fits n b q = l at *
    refine ⟨szM (by omega), ?_⟩
    simp only [↓wO_some, ↓wO_none, ↓wSl_0, ↓wSl_s, ↓wP_0, ↓wP_s, ↓kW_no, ↓kW_val, ↓kW_own, ↓kW_ov, ↓wO_setSlot, ↓wE_C, ↓kB_val, ↓kB_own, ↓kB_io, ↓wE_B, ↓kV_val, ↓kV_own, ↓wE_V, ↓kM_val, ↓kM_own, ↓wE_M, ↓kF_fz, ↓kF_bw, ↓kF_fr, ↓wE_F, ↓wR_fz, ↓kCt_val, ↓kCt_own, ↓kCt_io, ↓wR_bw, ↓wE_bin, ↓wE_un, ↓wA_nil, ↓kA_fz, ↓kA_bw, ↓kA_fr, ↓wA_cons, ↓wRs_nil, ↓wRs_cons, ↓wE_args, ↓wZ_nil, ↓wZ_cons, ↓kSz_0, ↓kSz_1, ↓kSz_2, ↓kSz_3, ↓kSz_4, ↓kSz_5, ↓kSz_6, ↓kSz_7, ↓kSz_8, ↓wE_tup, ↓wE_lst, ↓kT_bool, ↓wT_tst, ↓wT_and, ↓wT_or, ↓wT_not, ↓wT_yes, ↓wE_bool, ↓wE_if, ↓kAs_val, ↓kAs_own, ↓kAs_io, ↓wAs_nil, ↓wAs_fz, ↓wAs_bw, ↓kOut_nil, ↓kOut_nilr, ↓kPut_own, ↓kPut_io, ↓kOut_one, ↓kOut_oner, ↓wE_call, ↓w_add, ↓w_sub, ↓w_mul, ↓w_mulI, ↓w_fdiv, ↓w_mod, ↓w_neg, ↓w_lt, ↓w_le, ↓w_gt, ↓w_ge, ↓w_eq, ↓w_ne, ↓w_abs, ↓w_min2, ↓w_max2, ↓w_int, ↓w_intb, ↓w_pow, ↓w_lenL, ↓w_lenT, ↓w_ixL, ↓w_ixT, ↓w_tupL, ↓w_tupT, ↓w_listL, ↓w_listT, ↓kS_nx, ↓kS_bk, ↓kS_rt, ↓wS_nx, ↓wS_bk, ↓wS_seq, ↓kSt_fz, ↓kSt_fr, ↓wS_set, ↓kR_fz, ↓kR_fr, ↓wS_ret, ↓wS_retN, ↓wS_drop, ↓wS_if, ↓kAg_val, ↓wS_aug, ↓wG_N, ↓wG_T, ↓wGs_nil, ↓wGs_cons, ↓kIt_L, ↓kIt_T, ↓wI_seq, ↓kG1_i, ↓wI_rg1, ↓kG2_i, ↓wI_rg2, ↓wS_for, ↓wS_while, ↓kAz_fz, ↓wS_asg, ↓kL_nx, ↓kL_bk, ↓kL_rt, ↓wE_comp, ↓wU_nil, ↓wU_io, ↓wU_val, ↓kFn_fz, ↓kFn_fr, ↓kFn_nx, ↓wM_append, ↓wM_pop, ↓wM_rev, ↓wM_ins, ↓wM_popAt, ↓kMt_own, ↓kMt_io, ↓wE_mut, ↓wE_mut0, ↓kSi_i, ↓kSo_fz, ↓wS_store, ↓wE_meth, ↓w_addLL, ↓w_addTT, ↓w_mulLI, ↓w_mulTI, ↓w_inTI, ↓w_inLI, ↓w_inTN, ↓w_inLN, ↓w_sumTI, ↓w_sumLI, ↓w_sumTN, ↓w_sumLN, ↓w_cntTI, ↓w_cntTN, ↓w_cntLI, ↓w_cntLN, ↓kTR1_i, ↓kLR1_i, ↓wE_tupRg1, ↓wE_listRg1, ↓kTR2b_i, ↓kTR2_i, ↓kLR2b_i, ↓kLR2_i, ↓w_isN_none, ↓w_isN_bool, ↓w_isN_int, ↓w_isN_str, ↓w_isN_tuple, ↓w_notN_none, ↓w_notN_bool, ↓w_notN_int, ↓w_notN_str, ↓w_notN_tuple, ↓w_eqb, ↓w_eqLN, ↓w_neLN, ↓w_eqTN, ↓w_neTN, ↓w_neb, ↓w_isB, ↓w_notB, ↓w_revL, ↓w_iadd, ↓kW_oz, ↓kPar_2, ↓wS_par, ↓kCh2_b, ↓kCh_fz, ↓wE_chain, ↓w_gcd, ↓kSS_fz, ↓wE_sortSet, ↓w_sortSetI, ↓w_sortSetN, ↓wX_no, ↓kOI_i, ↓wX_yes, ↓wE_sl, ↓w_slT, ↓w_slL, ↓ats0, ↓ats1, ↓ats2, ↓ats3, ↓w_eqOI, ↓w_neOI, ↓w_eqOO, ↓w_isOI, ↓w_notOI, ↓w_revTL, ↓w_revTT, ↓kAuZ_fz, ↓kAuS_i, ↓wS_augS, ↓kEx_fr, ↓kEx_bw, ↓wS_ext, ↓kOn_fz, ↓wE_onFz, ↓w_ss2T, ↓w_ss2L, ↓w_ss2TN, ↓w_ss2LN, ↓w_lsT, ↓w_lsL, ↓w_srtI, ↓w_srtN, ↓w_srtTI, ↓w_srtTN, ↓w_srtP, ↓kG3_i, ↓wI_rg3, ↓wE_comp2, pl_1, pl_2, wipe_1, wipe_2, unw_1, unw_2, List.getD_cons_zero, List.getD_cons_succ, List.set_cons_zero, List.set_cons_succ, List.cons_append, List.nil_append, List.replicate_succ, List.replicate_zero, Nat.reduceSub, Nat.reduceAdd, Nat.reduceLT, plain_no, plain_val, plain_ov, Int.natCast_zero, Int.ofNat_zero, Int.cast_ofNat_Int, decide_eq_true_eq, decide_eq_false_iff_not, Bool.not_eq_true', Bool.not_eq_false', Bool.not_true, Bool.not_false, if_true, if_false, true_and, and_true, forall_const, decide_true, decide_false, Int.toNat_natCast, Int.reduceEq, Int.reduceNe, Int.reduceLT, Int.reduceLE, Int.zero_add, implies_true, true_implies, not_true_eq_false, not_false_eq_true, false_implies, false_and, and_false, reduceCtorEq, ite_true, ite_false, eq_self, List.length_cons, List.length_nil, oz_own, oz_val, pl_3, pl_4, wipe_3, wipe_4, unw_3, unw_4, List.length_map]
    cases l with
    | nil => exact ⟨fun h => by simp at h, fun _ => rfl⟩
    | cons a l => exact ⟨fun _ => by simp only [↓wO_some, ↓wO_none, ↓wSl_0, ↓wSl_s, ↓wP_0, ↓wP_s, ↓kW_no, ↓kW_val, ↓kW_own, ↓kW_ov, ↓wO_setSlot, ↓wE_C, ↓kB_val, ↓kB_own, ↓kB_io, ↓wE_B, ↓kV_val, ↓kV_own, ↓wE_V, ↓kM_val, ↓kM_own, ↓wE_M, ↓kF_fz, ↓kF_bw, ↓kF_fr, ↓wE_F, ↓wR_fz, ↓kCt_val, ↓kCt_own, ↓kCt_io, ↓wR_bw, ↓wE_bin, ↓wE_un, ↓wA_nil, ↓kA_fz, ↓kA_bw, ↓kA_fr, ↓wA_cons, ↓wRs_nil, ↓wRs_cons, ↓wE_args, ↓wZ_nil, ↓wZ_cons, ↓kSz_0, ↓kSz_1, ↓kSz_2, ↓kSz_3, ↓kSz_4, ↓kSz_5, ↓kSz_6, ↓kSz_7, ↓kSz_8, ↓wE_tup, ↓wE_lst, ↓kT_bool, ↓wT_tst, ↓wT_and, ↓wT_or, ↓wT_not, ↓wT_yes, ↓wE_bool, ↓wE_if, ↓kAs_val, ↓kAs_own, ↓kAs_io, ↓wAs_nil, ↓wAs_fz, ↓wAs_bw, ↓kOut_nil, ↓kOut_nilr, ↓kPut_own, ↓kPut_io, ↓kOut_one, ↓kOut_oner, ↓wE_call, ↓w_add, ↓w_sub, ↓w_mul, ↓w_mulI, ↓w_fdiv, ↓w_mod, ↓w_neg, ↓w_lt, ↓w_le, ↓w_gt, ↓w_ge, ↓w_eq, ↓w_ne, ↓w_abs, ↓w_min2, ↓w_max2, ↓w_int, ↓w_intb, ↓w_pow, ↓w_lenL, ↓w_lenT, ↓w_ixL, ↓w_ixT, ↓w_tupL, ↓w_tupT, ↓w_listL, ↓w_listT, ↓kS_nx, ↓kS_bk, ↓kS_rt, ↓wS_nx, ↓wS_bk, ↓wS_seq, ↓kSt_fz, ↓kSt_fr, ↓wS_set, ↓kR_fz, ↓kR_fr, ↓wS_ret, ↓wS_retN, ↓wS_drop, ↓wS_if, ↓kAg_val, ↓wS_aug, ↓wG_N, ↓wG_T, ↓wGs_nil, ↓wGs_cons, ↓kIt_L, ↓kIt_T, ↓wI_seq, ↓kG1_i, ↓wI_rg1, ↓kG2_i, ↓wI_rg2, ↓wS_for, ↓wS_while, ↓kAz_fz, ↓wS_asg, ↓kL_nx, ↓kL_bk, ↓kL_rt, ↓wE_comp, ↓wU_nil, ↓wU_io, ↓wU_val, ↓kFn_fz, ↓kFn_fr, ↓kFn_nx, ↓wM_append, ↓wM_pop, ↓wM_rev, ↓wM_ins, ↓wM_popAt, ↓kMt_own, ↓kMt_io, ↓wE_mut, ↓wE_mut0, ↓kSi_i, ↓kSo_fz, ↓wS_store, ↓wE_meth, ↓w_addLL, ↓w_addTT, ↓w_mulLI, ↓w_mulTI, ↓w_inTI, ↓w_inLI, ↓w_inTN, ↓w_inLN, ↓w_sumTI, ↓w_sumLI, ↓w_sumTN, ↓w_sumLN, ↓w_cntTI, ↓w_cntTN, ↓w_cntLI, ↓w_cntLN, ↓kTR1_i, ↓kLR1_i, ↓wE_tupRg1, ↓wE_listRg1, ↓kTR2b_i, ↓kTR2_i, ↓kLR2b_i, ↓kLR2_i, ↓w_isN_none, ↓w_isN_bool, ↓w_isN_int, ↓w_isN_str, ↓w_isN_tuple, ↓w_notN_none, ↓w_notN_bool, ↓w_notN_int, ↓w_notN_str, ↓w_notN_tuple, ↓w_eqb, ↓w_eqLN, ↓w_neLN, ↓w_eqTN, ↓w_neTN, ↓w_neb, ↓w_isB, ↓w_notB, ↓w_revL, ↓w_iadd, ↓kW_oz, ↓kPar_2, ↓wS_par, ↓kCh2_b, ↓kCh_fz, ↓wE_chain, ↓w_gcd, ↓kSS_fz, ↓wE_sortSet, ↓w_sortSetI, ↓w_sortSetN, ↓wX_no, ↓kOI_i, ↓wX_yes, ↓wE_sl, ↓w_slT, ↓w_slL, ↓ats0, ↓ats1, ↓ats2, ↓ats3, ↓w_eqOI, ↓w_neOI, ↓w_eqOO, ↓w_isOI, ↓w_notOI, ↓w_revTL, ↓w_revTT, ↓kAuZ_fz, ↓kAuS_i, ↓wS_augS, ↓kEx_fr, ↓kEx_bw, ↓wS_ext, ↓kOn_fz, ↓wE_onFz, ↓w_ss2T, ↓w_ss2L, ↓w_ss2TN, ↓w_ss2LN, ↓w_lsT, ↓w_lsL, ↓w_srtI, ↓w_srtN, ↓w_srtTI, ↓w_srtTN, ↓w_srtP, ↓kG3_i, ↓wI_rg3, ↓wE_comp2, pl_1, pl_2, wipe_1, wipe_2, unw_1, unw_2, List.getD_cons_zero, List.getD_cons_succ, List.set_cons_zero, List.set_cons_succ, List.cons_append, List.nil_append, List.replicate_succ, List.replicate_zero, Nat.reduceSub, Nat.reduceAdd, Nat.reduceLT, plain_no, plain_val, plain_ov, Int.natCast_zero, Int.ofNat_zero, Int.cast_ofNat_Int, decide_eq_true_eq, decide_eq_false_iff_not, Bool.not_eq_true', Bool.not_eq_false', Bool.not_true, Bool.not_false, if_true, if_false, true_and, and_true, forall_const, decide_true, decide_false, Int.toNat_natCast, Int.reduceEq, Int.reduceNe, Int.reduceLT, Int.reduceLE, Int.zero_add, implies_true, true_implies, not_true_eq_false, not_false_eq_true, false_implies, false_and, and_false, reduceCtorEq, ite_true, ite_false, eq_self, List.length_cons, List.length_nil, oz_own, oz_val, pl_3, pl_4, wipe_3, wipe_4, unw_3, unw_4, List.map_cons, ats0], fun h => by simp at h⟩
theorem mean_eq (n b k : Nat) (h : 0 < n) (hn : n ≤ 64) (hb : b ≤ 64) : F_mean_found [.val (.int n), .val (.int b), .val (.int k)] = some (.fz (fr (Rat.divInt ((b * k : Nat) : Int) (n : Nat))), []) := by
  refine eq_of_wO (wO_fn rfl ?_)
  unfold B_mean_found
  have hm : mulOk (b : Int) (k : Int) = true := mulOk_of (.inl (by omega))
  have hf := fraction_eq ((b : Nat) * (k : Nat)) (n : Nat) (by omega) (Nat.lt_of_lt_of_le (show ((n : Nat) : Int).natAbs < 2 ^ 7 by omega) (Nat.pow_le_pow_right (by decide) (by decide)))
  have h1 : (n : Int) > 0 := by omega
  simp only [↓wO_some, ↓wO_none, ↓wSl_0, ↓wSl_s, ↓wP_0, ↓wP_s, ↓kW_no, ↓kW_val, ↓kW_own, ↓kW_ov, ↓wO_setSlot, ↓wE_C, ↓kB_val, ↓kB_own, ↓kB_io, ↓wE_B, ↓kV_val, ↓kV_own, ↓wE_V, ↓kM_val, ↓kM_own, ↓wE_M, ↓kF_fz, ↓kF_bw, ↓kF_fr, ↓wE_F, ↓wR_fz, ↓kCt_val, ↓kCt_own, ↓kCt_io, ↓wR_bw, ↓wE_bin, ↓wE_un, ↓wA_nil, ↓kA_fz, ↓kA_bw, ↓kA_fr, ↓wA_cons, ↓wRs_nil, ↓wRs_cons, ↓wE_args, ↓wZ_nil, ↓wZ_cons, ↓kSz_0, ↓kSz_1, ↓kSz_2, ↓kSz_3, ↓kSz_4, ↓kSz_5, ↓kSz_6, ↓kSz_7, ↓kSz_8, ↓wE_tup, ↓wE_lst, ↓kT_bool, ↓wT_tst, ↓wT_and, ↓wT_or, ↓wT_not, ↓wT_yes, ↓wE_bool, ↓wE_if, ↓kAs_val, ↓kAs_own, ↓kAs_io, ↓wAs_nil, ↓wAs_fz, ↓wAs_bw, ↓kOut_nil, ↓kOut_nilr, ↓kPut_own, ↓kPut_io, ↓kOut_one, ↓kOut_oner, ↓wE_call, ↓w_add, ↓w_sub, ↓w_mul, ↓w_mulI, ↓w_fdiv, ↓w_mod, ↓w_neg, ↓w_lt, ↓w_le, ↓w_gt, ↓w_ge, ↓w_eq, ↓w_ne, ↓w_abs, ↓w_min2, ↓w_max2, ↓w_int, ↓w_intb, ↓w_pow, ↓w_lenL, ↓w_lenT, ↓w_ixL, ↓w_ixT, ↓w_tupL, ↓w_tupT, ↓w_listL, ↓w_listT, ↓kS_nx, ↓kS_bk, ↓kS_rt, ↓wS_nx, ↓wS_bk, ↓wS_seq, ↓kSt_fz, ↓kSt_fr, ↓wS_set, ↓kR_fz, ↓kR_fr, ↓wS_ret, ↓wS_retN, ↓wS_drop, ↓wS_if, ↓kAg_val, ↓wS_aug, ↓wG_N, ↓wG_T, ↓wGs_nil, ↓wGs_cons, ↓kIt_L, ↓kIt_T, ↓wI_seq, ↓kG1_i, ↓wI_rg1, ↓kG2_i, ↓wI_rg2, ↓wS_for, ↓wS_while, ↓kAz_fz, ↓wS_asg, ↓kL_nx, ↓kL_bk, ↓kL_rt, ↓wE_comp, ↓wU_nil, ↓wU_io, ↓wU_val, ↓kFn_fz, ↓kFn_fr, ↓kFn_nx, ↓wM_append, ↓wM_pop, ↓wM_rev, ↓wM_ins, ↓wM_popAt, ↓kMt_own, ↓kMt_io, ↓wE_mut, ↓wE_mut0, ↓kSi_i, ↓kSo_fz, ↓wS_store, ↓wE_meth, ↓w_addLL, ↓w_addTT, ↓w_mulLI, ↓w_mulTI, ↓w_inTI, ↓w_inLI, ↓w_inTN, ↓w_inLN, ↓w_sumTI, ↓w_sumLI, ↓w_sumTN, ↓w_sumLN, ↓w_cntTI, ↓w_cntTN, ↓w_cntLI, ↓w_cntLN, ↓kTR1_i, ↓kLR1_i, ↓wE_tupRg1, ↓wE_listRg1, ↓kTR2b_i, ↓kTR2_i, ↓kLR2b_i, ↓kLR2_i, ↓w_isN_none, ↓w_isN_bool, ↓w_isN_int, ↓w_isN_str, ↓w_isN_tuple, ↓w_notN_none, ↓w_notN_bool, ↓w_notN_int, ↓w_notN_str, ↓w_notN_tuple, ↓w_eqb, ↓w_eqLN, ↓w_neLN, ↓w_eqTN, ↓w_neTN, ↓w_neb, ↓w_isB, ↓w_notB, ↓w_revL, ↓w_iadd, ↓kW_oz, ↓kPar_2, ↓wS_par, ↓kCh2_b, ↓kCh_fz, ↓wE_chain, ↓w_gcd, ↓kSS_fz, ↓wE_sortSet, ↓w_sortSetI, ↓w_sortSetN, ↓wX_no, ↓kOI_i, ↓wX_yes, ↓wE_sl, ↓w_slT, ↓w_slL, ↓ats0, ↓ats1, ↓ats2, ↓ats3, ↓w_eqOI, ↓w_neOI, ↓w_eqOO, ↓w_isOI, ↓w_notOI, ↓w_revTL, ↓w_revTT, ↓kAuZ_fz, ↓kAuS_i, ↓wS_augS, ↓kEx_fr, ↓kEx_bw, ↓wS_ext, ↓kOn_fz, ↓wE_onFz, ↓w_ss2T, ↓w_ss2L, ↓w_ss2TN, ↓w_ss2LN, ↓w_lsT, ↓w_lsL, ↓w_srtI, ↓w_srtN, ↓w_srtTI, ↓w_srtTN, ↓w_srtP, ↓kG3_i, ↓wI_rg3, ↓wE_comp2, pl_1, pl_2, wipe_1, wipe_2, unw_1, unw_2, List.getD_cons_zero, List.getD_cons_succ, List.set_cons_zero, List.set_cons_succ, List.cons_append, List.nil_append, List.replicate_succ, List.replicate_zero, Nat.reduceSub, Nat.reduceAdd, Nat.reduceLT, plain_no, plain_val, plain_ov, Int.natCast_zero, Int.ofNat_zero, Int.cast_ofNat_Int, decide_eq_true_eq, decide_eq_false_iff_not, Bool.not_eq_true', Bool.not_eq_false', Bool.not_true, Bool.not_false, if_true, if_false, true_and, and_true, forall_const, decide_true, decide_false, Int.toNat_natCast, Int.reduceEq, Int.reduceNe, Int.reduceLT, Int.reduceLE, Int.zero_add, implies_true, true_implies, not_true_eq_false, not_false_eq_true, false_implies, false_and, and_false, reduceCtorEq, ite_true, ite_false, eq_self, List.length_cons, List.length_nil, oz_own, oz_val, pl_3, pl_4, wipe_3, wipe_4, unw_3, unw_4, hm, hf, h1]
  rw [Int.natCast_mul]
end K89


set_option Elab.async false
set_option linter.all false
set_option maxRecDepth 100000
namespace K89
open PySem PySem.Spec Ev
open L2 (ixN)
/-! ### guesses -/
theorem power_eq (a k : Nat) (ha : a ≤ 64) : F_power [.val (.int a), .val (.int k)] = some (.fz (.int (a ^ k : Nat)), []) := by
  refine eq_of_wO (wO_fn rfl ?_)
  unfold B_power
  simp only [↓wO_some, ↓wO_none, ↓wSl_0, ↓wSl_s, ↓wP_0, ↓wP_s, ↓kW_no, ↓kW_val, ↓kW_own, ↓kW_ov, ↓wO_setSlot, ↓wE_C, ↓kB_val, ↓kB_own, ↓kB_io, ↓wE_B, ↓kV_val, ↓kV_own, ↓wE_V, ↓kM_val, ↓kM_own, ↓wE_M, ↓kF_fz, ↓kF_bw, ↓kF_fr, ↓wE_F, ↓wR_fz, ↓kCt_val, ↓kCt_own, ↓kCt_io, ↓wR_bw, ↓wE_bin, ↓wE_un, ↓wA_nil, ↓kA_fz, ↓kA_bw, ↓kA_fr, ↓wA_cons, ↓wRs_nil, ↓wRs_cons, ↓wE_args, ↓wZ_nil, ↓wZ_cons, ↓kSz_0, ↓kSz_1, ↓kSz_2, ↓kSz_3, ↓kSz_4, ↓kSz_5, ↓kSz_6, ↓kSz_7, ↓kSz_8, ↓wE_tup, ↓wE_lst, ↓kT_bool, ↓wT_tst, ↓wT_and, ↓wT_or, ↓wT_not, ↓wT_yes, ↓wE_bool, ↓wE_if, ↓kAs_val, ↓kAs_own, ↓kAs_io, ↓wAs_nil, ↓wAs_fz, ↓wAs_bw, ↓kOut_nil, ↓kOut_nilr, ↓kPut_own, ↓kPut_io, ↓kOut_one, ↓kOut_oner, ↓wE_call, ↓w_add, ↓w_sub, ↓w_mul, ↓w_mulI, ↓w_fdiv, ↓w_mod, ↓w_neg, ↓w_lt, ↓w_le, ↓w_gt, ↓w_ge, ↓w_eq, ↓w_ne, ↓w_abs, ↓w_min2, ↓w_max2, ↓w_int, ↓w_intb, ↓w_pow, ↓w_lenL, ↓w_lenT, ↓w_ixL, ↓w_ixT, ↓w_tupL, ↓w_tupT, ↓w_listL, ↓w_listT, ↓kS_nx, ↓kS_bk, ↓kS_rt, ↓wS_nx, ↓wS_bk, ↓wS_seq, ↓kSt_fz, ↓kSt_fr, ↓wS_set, ↓kR_fz, ↓kR_fr, ↓wS_ret, ↓wS_retN, ↓wS_drop, ↓wS_if, ↓kAg_val, ↓wS_aug, ↓wG_N, ↓wG_T, ↓wGs_nil, ↓wGs_cons, ↓kIt_L, ↓kIt_T, ↓wI_seq, ↓kG1_i, ↓wI_rg1, ↓kG2_i, ↓wI_rg2, ↓wS_for, ↓wS_while, ↓kAz_fz, ↓wS_asg, ↓kL_nx, ↓kL_bk, ↓kL_rt, ↓wE_comp, ↓wU_nil, ↓wU_io, ↓wU_val, ↓kFn_fz, ↓kFn_fr, ↓kFn_nx, ↓wM_append, ↓wM_pop, ↓wM_rev, ↓wM_ins, ↓wM_popAt, ↓kMt_own, ↓kMt_io, ↓wE_mut, ↓wE_mut0, ↓kSi_i, ↓kSo_fz, ↓wS_store, ↓wE_meth, ↓w_addLL, ↓w_addTT, ↓w_mulLI, ↓w_mulTI, ↓w_inTI, ↓w_inLI, ↓w_inTN, ↓w_inLN, ↓w_sumTI, ↓w_sumLI, ↓w_sumTN, ↓w_sumLN, ↓w_cntTI, ↓w_cntTN, ↓w_cntLI, ↓w_cntLN, ↓kTR1_i, ↓kLR1_i, ↓wE_tupRg1, ↓wE_listRg1, ↓kTR2b_i, ↓kTR2_i, ↓kLR2b_i, ↓kLR2_i, ↓w_isN_none, ↓w_isN_bool, ↓w_isN_int, ↓w_isN_str, ↓w_isN_tuple, ↓w_notN_none, ↓w_notN_bool, ↓w_notN_int, ↓w_notN_str, ↓w_notN_tuple, ↓w_eqb, ↓w_eqLN, ↓w_neLN, ↓w_eqTN, ↓w_neTN, ↓w_neb, ↓w_isB, ↓w_notB, ↓w_revL, ↓w_iadd, ↓kW_oz, ↓kPar_2, ↓wS_par, ↓kCh2_b, ↓kCh_fz, ↓wE_chain, ↓w_gcd, ↓kSS_fz, ↓wE_sortSet, ↓w_sortSetI, ↓w_sortSetN, ↓wX_no, ↓kOI_i, ↓wX_yes, ↓wE_sl, ↓w_slT, ↓w_slL, ↓ats0, ↓ats1, ↓ats2, ↓ats3, ↓w_eqOI, ↓w_neOI, ↓w_eqOO, ↓w_isOI, ↓w_notOI, ↓w_revTL, ↓w_revTT, ↓kAuZ_fz, ↓kAuS_i, ↓wS_augS, ↓kEx_fr, ↓kEx_bw, ↓wS_ext, ↓kOn_fz, ↓wE_onFz, ↓w_ss2T, ↓w_ss2L, ↓w_ss2TN, ↓w_ss2LN, ↓w_lsT, ↓w_lsL, ↓w_srtI, ↓w_srtN, ↓w_srtTI, ↓w_srtTN, ↓w_srtP, ↓kG3_i, ↓wI_rg3, ↓wE_comp2, pl_1, pl_2, wipe_1, wipe_2, unw_1, unw_2, List.getD_cons_zero, List.getD_cons_succ, List.set_cons_zero, List.set_cons_succ, List.cons_append, List.nil_append, List.replicate_succ, List.replicate_zero, Nat.reduceSub, Nat.reduceAdd, Nat.reduceLT, plain_no, plain_val, plain_ov, Int.natCast_zero, Int.ofNat_zero, Int.cast_ofNat_Int, decide_eq_true_eq, decide_eq_false_iff_not, Bool.not_eq_true', Bool.not_eq_false', Bool.not_true, Bool.not_false, if_true, if_false, true_and, and_true, forall_const, decide_true, decide_false, Int.toNat_natCast, Int.reduceEq, Int.reduceNe, Int.reduceLT, Int.reduceLE, Int.zero_add, implies_true, true_implies, not_true_eq_false, not_false_eq_true, false_implies, false_and, and_false, reduceCtorEq, ite_true, ite_false, eq_self, List.length_cons, List.length_nil, oz_own, oz_val, pl_3, pl_4, wipe_3, wipe_4, unw_3, unw_4]
  refine wL_range (fun s ρ => ∃ (o3 : Option D), ρ = [.val (.int (a : Nat)), .val (.int (k : Nat)), .val (.int (a ^ s : Nat)), ov o3]) ⟨none, rfl⟩ ?_ ?_
  · rintro s _ hs ⟨o3, rfl⟩
    have hm : mulOk ((a ^ s : Nat) : Int) (a : Int) = true := mulOk_of (.inr (by omega))
    simp only [↓wO_some, ↓wO_none, ↓wSl_0, ↓wSl_s, ↓wP_0, ↓wP_s, ↓kW_no, ↓kW_val, ↓kW_own, ↓kW_ov, ↓wO_setSlot, ↓wE_C, ↓kB_val, ↓kB_own, ↓kB_io, ↓wE_B, ↓kV_val, ↓kV_own, ↓wE_V, ↓kM_val, ↓kM_own, ↓wE_M, ↓kF_fz, ↓kF_bw, ↓kF_fr, ↓wE_F, ↓wR_fz, ↓kCt_val, ↓kCt_own, ↓kCt_io, ↓wR_bw, ↓wE_bin, ↓wE_un, ↓wA_nil, ↓kA_fz, ↓kA_bw, ↓kA_fr, ↓wA_cons, ↓wRs_nil, ↓wRs_cons, ↓wE_args, ↓wZ_nil, ↓wZ_cons, ↓kSz_0, ↓kSz_1, ↓kSz_2, ↓kSz_3, ↓kSz_4, ↓kSz_5, ↓kSz_6, ↓kSz_7, ↓kSz_8, ↓wE_tup, ↓wE_lst, ↓kT_bool, ↓wT_tst, ↓wT_and, ↓wT_or, ↓wT_not, ↓wT_yes, ↓wE_bool, ↓wE_if, ↓kAs_val, ↓kAs_own, ↓kAs_io, ↓wAs_nil, ↓wAs_fz, ↓wAs_bw, ↓kOut_nil, ↓kOut_nilr, ↓kPut_own, ↓kPut_io, ↓kOut_one, ↓kOut_oner, ↓wE_call, ↓w_add, ↓w_sub, ↓w_mul, ↓w_mulI, ↓w_fdiv, ↓w_mod, ↓w_neg, ↓w_lt, ↓w_le, ↓w_gt, ↓w_ge, ↓w_eq, ↓w_ne, ↓w_abs, ↓w_min2, ↓w_max2, ↓w_int, ↓w_intb, ↓w_pow, ↓w_lenL, ↓w_lenT, ↓w_ixL, ↓w_ixT, ↓w_tupL, ↓w_tupT, ↓w_listL, ↓w_listT, ↓kS_nx, ↓kS_bk, ↓kS_rt, ↓wS_nx, ↓wS_bk, ↓wS_seq, ↓kSt_fz, ↓kSt_fr, ↓wS_set, ↓kR_fz, ↓kR_fr, ↓wS_ret, ↓wS_retN, ↓wS_drop, ↓wS_if, ↓kAg_val, ↓wS_aug, ↓wG_N, ↓wG_T, ↓wGs_nil, ↓wGs_cons, ↓kIt_L, ↓kIt_T, ↓wI_seq, ↓kG1_i, ↓wI_rg1, ↓kG2_i, ↓wI_rg2, ↓wS_for, ↓wS_while, ↓kAz_fz, ↓wS_asg, ↓kL_nx, ↓kL_bk, ↓kL_rt, ↓wE_comp, ↓wU_nil, ↓wU_io, ↓wU_val, ↓kFn_fz, ↓kFn_fr, ↓kFn_nx, ↓wM_append, ↓wM_pop, ↓wM_rev, ↓wM_ins, ↓wM_popAt, ↓kMt_own, ↓kMt_io, ↓wE_mut, ↓wE_mut0, ↓kSi_i, ↓kSo_fz, ↓wS_store, ↓wE_meth, ↓w_addLL, ↓w_addTT, ↓w_mulLI, ↓w_mulTI, ↓w_inTI, ↓w_inLI, ↓w_inTN, ↓w_inLN, ↓w_sumTI, ↓w_sumLI, ↓w_sumTN, ↓w_sumLN, ↓w_cntTI, ↓w_cntTN, ↓w_cntLI, ↓w_cntLN, ↓kTR1_i, ↓kLR1_i, ↓wE_tupRg1, ↓wE_listRg1, ↓kTR2b_i, ↓kTR2_i, ↓kLR2b_i, ↓kLR2_i, ↓w_isN_none, ↓w_isN_bool, ↓w_isN_int, ↓w_isN_str, ↓w_isN_tuple, ↓w_notN_none, ↓w_notN_bool, ↓w_notN_int, ↓w_notN_str, ↓w_notN_tuple, ↓w_eqb, ↓w_eqLN, ↓w_neLN, ↓w_eqTN, ↓w_neTN, ↓w_neb, ↓w_isB, ↓w_notB, ↓w_revL, ↓w_iadd, ↓kW_oz, ↓kPar_2, ↓wS_par, ↓kCh2_b, ↓kCh_fz, ↓wE_chain, ↓w_gcd, ↓kSS_fz, ↓wE_sortSet, ↓w_sortSetI, ↓w_sortSetN, ↓wX_no, ↓kOI_i, ↓wX_yes, ↓wE_sl, ↓w_slT, ↓w_slL, ↓ats0, ↓ats1, ↓ats2, ↓ats3, ↓w_eqOI, ↓w_neOI, ↓w_eqOO, ↓w_isOI, ↓w_notOI, ↓w_revTL, ↓w_revTT, ↓kAuZ_fz, ↓kAuS_i, ↓wS_augS, ↓kEx_fr, ↓kEx_bw, ↓wS_ext, ↓kOn_fz, ↓wE_onFz, ↓w_ss2T, ↓w_ss2L, ↓w_ss2TN, ↓w_ss2LN, ↓w_lsT, ↓w_lsL, ↓w_srtI, ↓w_srtN, ↓w_srtTI, ↓w_srtTN, ↓w_srtP, ↓kG3_i, ↓wI_rg3, ↓wE_comp2, pl_1, pl_2, wipe_1, wipe_2, unw_1, unw_2, List.getD_cons_zero, List.getD_cons_succ, List.set_cons_zero, List.set_cons_succ, List.cons_append, List.nil_append, List.replicate_succ, List.replicate_zero, Nat.reduceSub, Nat.reduceAdd, Nat.reduceLT, plain_no, plain_val, plain_ov, Int.natCast_zero, Int.ofNat_zero, Int.cast_ofNat_Int, decide_eq_true_eq, decide_eq_false_iff_not, Bool.not_eq_true', Bool.not_eq_false', Bool.not_true, Bool.not_false, if_true, if_false, true_and, and_true, forall_const, decide_true, decide_false, Int.toNat_natCast, Int.reduceEq, Int.reduceNe, Int.reduceLT, Int.reduceLE, Int.zero_add, implies_true, true_implies, not_true_eq_false, not_false_eq_true, false_implies, false_and, and_false, reduceCtorEq, ite_true, ite_false, eq_self, List.length_cons, List.length_nil, oz_own, oz_val, pl_3, pl_4, wipe_3, wipe_4, unw_3, unw_4, hm]
    exact ⟨some (.int s), by rw [Nat.pow_succ, Int.natCast_mul]; rfl⟩
  · rintro _ ⟨o3, rfl⟩
    simp only [↓wO_some, ↓wO_none, ↓wSl_0, ↓wSl_s, ↓wP_0, ↓wP_s, ↓kW_no, ↓kW_val, ↓kW_own, ↓kW_ov, ↓wO_setSlot, ↓wE_C, ↓kB_val, ↓kB_own, ↓kB_io, ↓wE_B, ↓kV_val, ↓kV_own, ↓wE_V, ↓kM_val, ↓kM_own, ↓wE_M, ↓kF_fz, ↓kF_bw, ↓kF_fr, ↓wE_F, ↓wR_fz, ↓kCt_val, ↓kCt_own, ↓kCt_io, ↓wR_bw, ↓wE_bin, ↓wE_un, ↓wA_nil, ↓kA_fz, ↓kA_bw, ↓kA_fr, ↓wA_cons, ↓wRs_nil, ↓wRs_cons, ↓wE_args, ↓wZ_nil, ↓wZ_cons, ↓kSz_0, ↓kSz_1, ↓kSz_2, ↓kSz_3, ↓kSz_4, ↓kSz_5, ↓kSz_6, ↓kSz_7, ↓kSz_8, ↓wE_tup, ↓wE_lst, ↓kT_bool, ↓wT_tst, ↓wT_and, ↓wT_or, ↓wT_not, ↓wT_yes, ↓wE_bool, ↓wE_if, ↓kAs_val, ↓kAs_own, ↓kAs_io, ↓wAs_nil, ↓wAs_fz, ↓wAs_bw, ↓kOut_nil, ↓kOut_nilr, ↓kPut_own, ↓kPut_io, ↓kOut_one, ↓kOut_oner, ↓wE_call, ↓w_add, ↓w_sub, ↓w_mul, ↓w_mulI, ↓w_fdiv, ↓w_mod, ↓w_neg, ↓w_lt, ↓w_le, ↓w_gt, ↓w_ge, ↓w_eq, ↓w_ne, ↓w_abs, ↓w_min2, ↓w_max2, ↓w_int, ↓w_intb, ↓w_pow, ↓w_lenL, ↓w_lenT, ↓w_ixL, ↓w_ixT, ↓w_tupL, ↓w_tupT, ↓w_listL, ↓w_listT, ↓kS_nx, ↓kS_bk, ↓kS_rt, ↓wS_nx, ↓wS_bk, ↓wS_seq, ↓kSt_fz, ↓kSt_fr, ↓wS_set, ↓kR_fz, ↓kR_fr, ↓wS_ret, ↓wS_retN, ↓wS_drop, ↓wS_if, ↓kAg_val, ↓wS_aug, ↓wG_N, ↓wG_T, ↓wGs_nil, ↓wGs_cons, ↓kIt_L, ↓kIt_T, ↓wI_seq, ↓kG1_i, ↓wI_rg1, ↓kG2_i, ↓wI_rg2, ↓wS_for, ↓wS_while, ↓kAz_fz, ↓wS_asg, ↓kL_nx, ↓kL_bk, ↓kL_rt, ↓wE_comp, ↓wU_nil, ↓wU_io, ↓wU_val, ↓kFn_fz, ↓kFn_fr, ↓kFn_nx, ↓wM_append, ↓wM_pop, ↓wM_rev, ↓wM_ins, ↓wM_popAt, ↓kMt_own, ↓kMt_io, ↓wE_mut, ↓wE_mut0, ↓kSi_i, ↓kSo_fz, ↓wS_store, ↓wE_meth, ↓w_addLL, ↓w_addTT, ↓w_mulLI, ↓w_mulTI, ↓w_inTI, ↓w_inLI, ↓w_inTN, ↓w_inLN, ↓w_sumTI, ↓w_sumLI, ↓w_sumTN, ↓w_sumLN, ↓w_cntTI, ↓w_cntTN, ↓w_cntLI, ↓w_cntLN, ↓kTR1_i, ↓kLR1_i, ↓wE_tupRg1, ↓wE_listRg1, ↓kTR2b_i, ↓kTR2_i, ↓kLR2b_i, ↓kLR2_i, ↓w_isN_none, ↓w_isN_bool, ↓w_isN_int, ↓w_isN_str, ↓w_isN_tuple, ↓w_notN_none, ↓w_notN_bool, ↓w_notN_int, ↓w_notN_str, ↓w_notN_tuple, ↓w_eqb, ↓w_eqLN, ↓w_neLN, ↓w_eqTN, ↓w_neTN, ↓w_neb, ↓w_isB, ↓w_notB, ↓w_revL, ↓w_iadd, ↓kW_oz, ↓kPar_2, ↓wS_par, ↓kCh2_b, ↓kCh_fz, ↓wE_chain, ↓w_gcd, ↓kSS_fz, ↓wE_sortSet, ↓w_sortSetI, ↓w_sortSetN, ↓wX_no, ↓kOI_i, ↓wX_yes, ↓wE_sl, ↓w_slT, ↓w_slL, ↓ats0, ↓ats1, ↓ats2, ↓ats3, ↓w_eqOI, ↓w_neOI, ↓w_eqOO, ↓w_isOI, ↓w_notOI, ↓w_revTL, ↓w_revTT, ↓kAuZ_fz, ↓kAuS_i, ↓wS_augS, ↓kEx_fr, ↓kEx_bw, ↓wS_ext, ↓kOn_fz, ↓wE_onFz, ↓w_ss2T, ↓w_ss2L, ↓w_ss2TN, ↓w_ss2LN, ↓w_lsT, ↓w_lsL, ↓w_srtI, ↓w_srtN, ↓w_srtTI, ↓w_srtTN, ↓w_srtP, ↓kG3_i, ↓wI_rg3, ↓wE_comp2, pl_1, pl_2, wipe_1, wipe_2, unw_1, unw_2, List.getD_cons_zero, List.getD_cons_succ, List.set_cons_zero, List.set_cons_succ, List.cons_append, List.nil_append, List.replicate_succ, List.replicate_zero, Nat.reduceSub, Nat.reduceAdd, Nat.reduceLT, plain_no, plain_val, plain_ov, Int.natCast_zero, Int.ofNat_zero, Int.cast_ofNat_Int, decide_eq_true_eq, decide_eq_false_iff_not, Bool.not_eq_true', Bool.not_eq_false', Bool.not_true, Bool.not_false, if_true, if_false, true_and, and_true, forall_const, decide_true, decide_false, Int.toNat_natCast, Int.reduceEq, Int.reduceNe, Int.reduceLT, Int.reduceLE, Int.zero_add, implies_true, true_implies, not_true_eq_false, not_false_eq_true, false_implies, false_and, and_false, reduceCtorEq, ite_true, ite_false, eq_self, List.length_cons, List.length_nil, oz_own, oz_val, pl_3, pl_4, wipe_3, wipe_4, unw_3, unw_4]
theorem ways_eq (n k : Nat) (hk : k ≤ n) (hn : n ≤ 64) : F_ways_to_choose [.val (.int n), .val (.int k)] = some (.fz (.int (chl n k : Nat)), []) := by
  refine eq_of_wO (wO_fn rfl ?_)
  unfold B_ways_to_choose
  simp only [↓wO_some, ↓wO_none, ↓wSl_0, ↓wSl_s, ↓wP_0, ↓wP_s, ↓kW_no, ↓kW_val, ↓kW_own, ↓kW_ov, ↓wO_setSlot, ↓wE_C, ↓kB_val, ↓kB_own, ↓kB_io, ↓wE_B, ↓kV_val, ↓kV_own, ↓wE_V, ↓kM_val, ↓kM_own, ↓wE_M, ↓kF_fz, ↓kF_bw, ↓kF_fr, ↓wE_F, ↓wR_fz, ↓kCt_val, ↓kCt_own, ↓kCt_io, ↓wR_bw, ↓wE_bin, ↓wE_un, ↓wA_nil, ↓kA_fz, ↓kA_bw, ↓kA_fr, ↓wA_cons, ↓wRs_nil, ↓wRs_cons, ↓wE_args, ↓wZ_nil, ↓wZ_cons, ↓kSz_0, ↓kSz_1, ↓kSz_2, ↓kSz_3, ↓kSz_4, ↓kSz_5, ↓kSz_6, ↓kSz_7, ↓kSz_8, ↓wE_tup, ↓wE_lst, ↓kT_bool, ↓wT_tst, ↓wT_and, ↓wT_or, ↓wT_not, ↓wT_yes, ↓wE_bool, ↓wE_if, ↓kAs_val, ↓kAs_own, ↓kAs_io, ↓wAs_nil, ↓wAs_fz, ↓wAs_bw, ↓kOut_nil, ↓kOut_nilr, ↓kPut_own, ↓kPut_io, ↓kOut_one, ↓kOut_oner, ↓wE_call, ↓w_add, ↓w_sub, ↓w_mul, ↓w_mulI, ↓w_fdiv, ↓w_mod, ↓w_neg, ↓w_lt, ↓w_le, ↓w_gt, ↓w_ge, ↓w_eq, ↓w_ne, ↓w_abs, ↓w_min2, ↓w_max2, ↓w_int, ↓w_intb, ↓w_pow, ↓w_lenL, ↓w_lenT, ↓w_ixL, ↓w_ixT, ↓w_tupL, ↓w_tupT, ↓w_listL, ↓w_listT, ↓kS_nx, ↓kS_bk, ↓kS_rt, ↓wS_nx, ↓wS_bk, ↓wS_seq, ↓kSt_fz, ↓kSt_fr, ↓wS_set, ↓kR_fz, ↓kR_fr, ↓wS_ret, ↓wS_retN, ↓wS_drop, ↓wS_if, ↓kAg_val, ↓wS_aug, ↓wG_N, ↓wG_T, ↓wGs_nil, ↓wGs_cons, ↓kIt_L, ↓kIt_T, ↓wI_seq, ↓kG1_i, ↓wI_rg1, ↓kG2_i, ↓wI_rg2, ↓wS_for, ↓wS_while, ↓kAz_fz, ↓wS_asg, ↓kL_nx, ↓kL_bk, ↓kL_rt, ↓wE_comp, ↓wU_nil, ↓wU_io, ↓wU_val, ↓kFn_fz, ↓kFn_fr, ↓kFn_nx, ↓wM_append, ↓wM_pop, ↓wM_rev, ↓wM_ins, ↓wM_popAt, ↓kMt_own, ↓kMt_io, ↓wE_mut, ↓wE_mut0, ↓kSi_i, ↓kSo_fz, ↓wS_store, ↓wE_meth, ↓w_addLL, ↓w_addTT, ↓w_mulLI, ↓w_mulTI, ↓w_inTI, ↓w_inLI, ↓w_inTN, ↓w_inLN, ↓w_sumTI, ↓w_sumLI, ↓w_sumTN, ↓w_sumLN, ↓w_cntTI, ↓w_cntTN, ↓w_cntLI, ↓w_cntLN, ↓kTR1_i, ↓kLR1_i, ↓wE_tupRg1, ↓wE_listRg1, ↓kTR2b_i, ↓kTR2_i, ↓kLR2b_i, ↓kLR2_i, ↓w_isN_none, ↓w_isN_bool, ↓w_isN_int, ↓w_isN_str, ↓w_isN_tuple, ↓w_notN_none, ↓w_notN_bool, ↓w_notN_int, ↓w_notN_str, ↓w_notN_tuple, ↓w_eqb, ↓w_eqLN, ↓w_neLN, ↓w_eqTN, ↓w_neTN, ↓w_neb, ↓w_isB, ↓w_notB, ↓w_revL, ↓w_iadd, ↓kW_oz, ↓kPar_2, ↓wS_par, ↓kCh2_b, ↓kCh_fz, ↓wE_chain, ↓w_gcd, ↓kSS_fz, ↓wE_sortSet, ↓w_sortSetI, ↓w_sortSetN, ↓wX_no, ↓kOI_i, ↓wX_yes, ↓wE_sl, ↓w_slT, ↓w_slL, ↓ats0, ↓ats1, ↓ats2, ↓ats3, ↓w_eqOI, ↓w_neOI, ↓w_eqOO, ↓w_isOI, ↓w_notOI, ↓w_revTL, ↓w_revTT, ↓kAuZ_fz, ↓kAuS_i, ↓wS_augS, ↓kEx_fr, ↓kEx_bw, ↓wS_ext, ↓kOn_fz, ↓wE_onFz, ↓w_ss2T, ↓w_ss2L, ↓w_ss2TN, ↓w_ss2LN, ↓w_lsT, ↓w_lsL, ↓w_srtI, ↓w_srtN, ↓w_srtTI, ↓w_srtTN, ↓w_srtP, ↓kG3_i, ↓wI_rg3, ↓wE_comp2, pl_1, pl_2, wipe_1, wipe_2, unw_1, unw_2, List.getD_cons_zero, List.getD_cons_succ, List.set_cons_zero, List.set_cons_succ, List.cons_append, List.nil_append, List.replicate_succ, List.replicate_zero, Nat.reduceSub, Nat.reduceAdd, Nat.reduceLT, plain_no, plain_val, plain_ov, Int.natCast_zero, Int.ofNat_zero, Int.cast_ofNat_Int, decide_eq_true_eq, decide_eq_false_iff_not, Bool.not_eq_true', Bool.not_eq_false', Bool.not_true, Bool.not_false, if_true, if_false, true_and, and_true, forall_const, decide_true, decide_false, Int.toNat_natCast, Int.reduceEq, Int.reduceNe, Int.reduceLT, Int.reduceLE, Int.zero_add, implies_true, true_implies, not_true_eq_false, not_false_eq_true, false_implies, false_and, and_false, reduceCtorEq, ite_true, ite_false, eq_self, List.length_cons, List.length_nil, oz_own, oz_val, pl_3, pl_4, wipe_3, wipe_4, unw_3, unw_4]
  refine wL_range (fun s ρ => ∃ (o3 : Option D), ρ = [.val (.int (n : Nat)), .val (.int (k : Nat)), .val (.int (chl n s : Nat)), ov o3]) ⟨none, rfl⟩ ?_ ?_
  · rintro s _ hs ⟨o3, rfl⟩
    have hs : s < n := by omega
    have e1 : (s : Int) + 1 = ((s + 1 : Nat) : Int) := by omega
    have hm : mulOk ((chl n s : Nat) : Int) ((n : Int) - (s : Int)) = true := mulOk_of (.inr (by omega))
    simp only [↓wO_some, ↓wO_none, ↓wSl_0, ↓wSl_s, ↓wP_0, ↓wP_s, ↓kW_no, ↓kW_val, ↓kW_own, ↓kW_ov, ↓wO_setSlot, ↓wE_C, ↓kB_val, ↓kB_own, ↓kB_io, ↓wE_B, ↓kV_val, ↓kV_own, ↓wE_V, ↓kM_val, ↓kM_own, ↓wE_M, ↓kF_fz, ↓kF_bw, ↓kF_fr, ↓wE_F, ↓wR_fz, ↓kCt_val, ↓kCt_own, ↓kCt_io, ↓wR_bw, ↓wE_bin, ↓wE_un, ↓wA_nil, ↓kA_fz, ↓kA_bw, ↓kA_fr, ↓wA_cons, ↓wRs_nil, ↓wRs_cons, ↓wE_args, ↓wZ_nil, ↓wZ_cons, ↓kSz_0, ↓kSz_1, ↓kSz_2, ↓kSz_3, ↓kSz_4, ↓kSz_5, ↓kSz_6, ↓kSz_7, ↓kSz_8, ↓wE_tup, ↓wE_lst, ↓kT_bool, ↓wT_tst, ↓wT_and, ↓wT_or, ↓wT_not, ↓wT_yes, ↓wE_bool, ↓wE_if, ↓kAs_val, ↓kAs_own, ↓kAs_io, ↓wAs_nil, ↓wAs_fz, ↓wAs_bw, ↓kOut_nil, ↓kOut_nilr, ↓kPut_own, ↓kPut_io, ↓kOut_one, ↓kOut_oner, ↓wE_call, ↓w_add, ↓w_sub, ↓w_mul, ↓w_mulI, ↓w_fdiv, ↓w_mod, ↓w_neg, ↓w_lt, ↓w_le, ↓w_gt, ↓w_ge, ↓w_eq, ↓w_ne, ↓w_abs, ↓w_min2, ↓w_max2, ↓w_int, ↓w_intb, ↓w_pow, ↓w_lenL, ↓w_lenT, ↓w_ixL, ↓w_ixT, ↓w_tupL, ↓w_tupT, ↓w_listL, ↓w_listT, ↓kS_nx, ↓kS_bk, ↓kS_rt, ↓wS_nx, ↓wS_bk, ↓wS_seq, ↓kSt_fz, ↓kSt_fr, ↓wS_set, ↓kR_fz, ↓kR_fr, ↓wS_ret, ↓wS_retN, ↓wS_drop, ↓wS_if, ↓kAg_val, ↓wS_aug, ↓wG_N, ↓wG_T, ↓wGs_nil, ↓wGs_cons, ↓kIt_L, ↓kIt_T, ↓wI_seq, ↓kG1_i, ↓wI_rg1, ↓kG2_i, ↓wI_rg2, ↓wS_for, ↓wS_while, ↓kAz_fz, ↓wS_asg, ↓kL_nx, ↓kL_bk, ↓kL_rt, ↓wE_comp, ↓wU_nil, ↓wU_io, ↓wU_val, ↓kFn_fz, ↓kFn_fr, ↓kFn_nx, ↓wM_append, ↓wM_pop, ↓wM_rev, ↓wM_ins, ↓wM_popAt, ↓kMt_own, ↓kMt_io, ↓wE_mut, ↓wE_mut0, ↓kSi_i, ↓kSo_fz, ↓wS_store, ↓wE_meth, ↓w_addLL, ↓w_addTT, ↓w_mulLI, ↓w_mulTI, ↓w_inTI, ↓w_inLI, ↓w_inTN, ↓w_inLN, ↓w_sumTI, ↓w_sumLI, ↓w_sumTN, ↓w_sumLN, ↓w_cntTI, ↓w_cntTN, ↓w_cntLI, ↓w_cntLN, ↓kTR1_i, ↓kLR1_i, ↓wE_tupRg1, ↓wE_listRg1, ↓kTR2b_i, ↓kTR2_i, ↓kLR2b_i, ↓kLR2_i, ↓w_isN_none, ↓w_isN_bool, ↓w_isN_int, ↓w_isN_str, ↓w_isN_tuple, ↓w_notN_none, ↓w_notN_bool, ↓w_notN_int, ↓w_notN_str, ↓w_notN_tuple, ↓w_eqb, ↓w_eqLN, ↓w_neLN, ↓w_eqTN, ↓w_neTN, ↓w_neb, ↓w_isB, ↓w_notB, ↓w_revL, ↓w_iadd, ↓kW_oz, ↓kPar_2, ↓wS_par, ↓kCh2_b, ↓kCh_fz, ↓wE_chain, ↓w_gcd, ↓kSS_fz, ↓wE_sortSet, ↓w_sortSetI, ↓w_sortSetN, ↓wX_no, ↓kOI_i, ↓wX_yes, ↓wE_sl, ↓w_slT, ↓w_slL, ↓ats0, ↓ats1, ↓ats2, ↓ats3, ↓w_eqOI, ↓w_neOI, ↓w_eqOO, ↓w_isOI, ↓w_notOI, ↓w_revTL, ↓w_revTT, ↓kAuZ_fz, ↓kAuS_i, ↓wS_augS, ↓kEx_fr, ↓kEx_bw, ↓wS_ext, ↓kOn_fz, ↓wE_onFz, ↓w_ss2T, ↓w_ss2L, ↓w_ss2TN, ↓w_ss2LN, ↓w_lsT, ↓w_lsL, ↓w_srtI, ↓w_srtN, ↓w_srtTI, ↓w_srtTN, ↓w_srtP, ↓kG3_i, ↓wI_rg3, ↓wE_comp2, pl_1, pl_2, wipe_1, wipe_2, unw_1, unw_2, List.getD_cons_zero, List.getD_cons_succ, List.set_cons_zero, List.set_cons_succ, List.cons_append, List.nil_append, List.replicate_succ, List.replicate_zero, Nat.reduceSub, Nat.reduceAdd, Nat.reduceLT, plain_no, plain_val, plain_ov, Int.natCast_zero, Int.ofNat_zero, Int.cast_ofNat_Int, decide_eq_true_eq, decide_eq_false_iff_not, Bool.not_eq_true', Bool.not_eq_false', Bool.not_true, Bool.not_false, if_true, if_false, true_and, and_true, forall_const, decide_true, decide_false, Int.toNat_natCast, Int.reduceEq, Int.reduceNe, Int.reduceLT, Int.reduceLE, Int.zero_add, implies_true, true_implies, not_true_eq_false, not_false_eq_true, false_implies, false_and, and_false, reduceCtorEq, ite_true, ite_false, eq_self, List.length_cons, List.length_nil, oz_own, oz_val, pl_3, pl_4, wipe_3, wipe_4, unw_3, unw_4, hm, chstep hs, e1, dk (show 1 ≤ s + 1 by omega) (by omega), fdiv_nat]
    exact ⟨some (.int s), rfl⟩
  · rintro _ ⟨o3, rfl⟩
    simp only [↓wO_some, ↓wO_none, ↓wSl_0, ↓wSl_s, ↓wP_0, ↓wP_s, ↓kW_no, ↓kW_val, ↓kW_own, ↓kW_ov, ↓wO_setSlot, ↓wE_C, ↓kB_val, ↓kB_own, ↓kB_io, ↓wE_B, ↓kV_val, ↓kV_own, ↓wE_V, ↓kM_val, ↓kM_own, ↓wE_M, ↓kF_fz, ↓kF_bw, ↓kF_fr, ↓wE_F, ↓wR_fz, ↓kCt_val, ↓kCt_own, ↓kCt_io, ↓wR_bw, ↓wE_bin, ↓wE_un, ↓wA_nil, ↓kA_fz, ↓kA_bw, ↓kA_fr, ↓wA_cons, ↓wRs_nil, ↓wRs_cons, ↓wE_args, ↓wZ_nil, ↓wZ_cons, ↓kSz_0, ↓kSz_1, ↓kSz_2, ↓kSz_3, ↓kSz_4, ↓kSz_5, ↓kSz_6, ↓kSz_7, ↓kSz_8, ↓wE_tup, ↓wE_lst, ↓kT_bool, ↓wT_tst, ↓wT_and, ↓wT_or, ↓wT_not, ↓wT_yes, ↓wE_bool, ↓wE_if, ↓kAs_val, ↓kAs_own, ↓kAs_io, ↓wAs_nil, ↓wAs_fz, ↓wAs_bw, ↓kOut_nil, ↓kOut_nilr, ↓kPut_own, ↓kPut_io, ↓kOut_one, ↓kOut_oner, ↓wE_call, ↓w_add, ↓w_sub, ↓w_mul, ↓w_mulI, ↓w_fdiv, ↓w_mod, ↓w_neg, ↓w_lt, ↓w_le, ↓w_gt, ↓w_ge, ↓w_eq, ↓w_ne, ↓w_abs, ↓w_min2, ↓w_max2, ↓w_int, ↓w_intb, ↓w_pow, ↓w_lenL, ↓w_lenT, ↓w_ixL, ↓w_ixT, ↓w_tupL, ↓w_tupT, ↓w_listL, ↓w_listT, ↓kS_nx, ↓kS_bk, ↓kS_rt, ↓wS_nx, ↓wS_bk, ↓wS_seq, ↓kSt_fz, ↓kSt_fr, ↓wS_set, ↓kR_fz, ↓kR_fr, ↓wS_ret, ↓wS_retN, ↓wS_drop, ↓wS_if, ↓kAg_val, ↓wS_aug, ↓wG_N, ↓wG_T, ↓wGs_nil, ↓wGs_cons, ↓kIt_L, ↓kIt_T, ↓wI_seq, ↓kG1_i, ↓wI_rg1, ↓kG2_i, ↓wI_rg2, ↓wS_for, ↓wS_while, ↓kAz_fz, ↓wS_asg, ↓kL_nx, ↓kL_bk, ↓kL_rt, ↓wE_comp, ↓wU_nil, ↓wU_io, ↓wU_val, ↓kFn_fz, ↓kFn_fr, ↓kFn_nx, ↓wM_append, ↓wM_pop, ↓wM_rev, ↓wM_ins, ↓wM_popAt, ↓kMt_own, ↓kMt_io, ↓wE_mut, ↓wE_mut0, ↓kSi_i, ↓kSo_fz, ↓wS_store, ↓wE_meth, ↓w_addLL, ↓w_addTT, ↓w_mulLI, ↓w_mulTI, ↓w_inTI, ↓w_inLI, ↓w_inTN, ↓w_inLN, ↓w_sumTI, ↓w_sumLI, ↓w_sumTN, ↓w_sumLN, ↓w_cntTI, ↓w_cntTN, ↓w_cntLI, ↓w_cntLN, ↓kTR1_i, ↓kLR1_i, ↓wE_tupRg1, ↓wE_listRg1, ↓kTR2b_i, ↓kTR2_i, ↓kLR2b_i, ↓kLR2_i, ↓w_isN_none, ↓w_isN_bool, ↓w_isN_int, ↓w_isN_str, ↓w_isN_tuple, ↓w_notN_none, ↓w_notN_bool, ↓w_notN_int, ↓w_notN_str, ↓w_notN_tuple, ↓w_eqb, ↓w_eqLN, ↓w_neLN, ↓w_eqTN, ↓w_neTN, ↓w_neb, ↓w_isB, ↓w_notB, ↓w_revL, ↓w_iadd, ↓kW_oz, ↓kPar_2, ↓wS_par, ↓kCh2_b, ↓kCh_fz, ↓wE_chain, ↓w_gcd, ↓kSS_fz, ↓wE_sortSet, ↓w_sortSetI, ↓w_sortSetN, ↓wX_no, ↓kOI_i, ↓wX_yes, ↓wE_sl, ↓w_slT, ↓w_slL, ↓ats0, ↓ats1, ↓ats2, ↓ats3, ↓w_eqOI, ↓w_neOI, ↓w_eqOO, ↓w_isOI, ↓w_notOI, ↓w_revTL, ↓w_revTT, ↓kAuZ_fz, ↓kAuS_i, ↓wS_augS, ↓kEx_fr, ↓kEx_bw, ↓wS_ext, ↓kOn_fz, ↓wE_onFz, ↓w_ss2T, ↓w_ss2L, ↓w_ss2TN, ↓w_ss2LN, ↓w_lsT, ↓w_lsL, ↓w_srtI, ↓w_srtN, ↓w_srtTI, ↓w_srtTN, ↓w_srtP, ↓kG3_i, ↓wI_rg3, ↓wE_comp2, pl_1, pl_2, wipe_1, wipe_2, unw_1, unw_2, List.getD_cons_zero, List.getD_cons_succ, List.set_cons_zero, List.set_cons_succ, List.cons_append, List.nil_append, List.replicate_succ, List.replicate_zero, Nat.reduceSub, Nat.reduceAdd, Nat.reduceLT, plain_no, plain_val, plain_ov, Int.natCast_zero, Int.ofNat_zero, Int.cast_ofNat_Int, decide_eq_true_eq, decide_eq_false_iff_not, Bool.not_eq_true', Bool.not_eq_false', Bool.not_true, Bool.not_false, if_true, if_false, true_and, and_true, forall_const, decide_true, decide_false, Int.toNat_natCast, Int.reduceEq, Int.reduceNe, Int.reduceLT, Int.reduceLE, Int.zero_add, implies_true, true_implies, not_true_eq_false, not_false_eq_true, false_implies, false_and, and_false, reduceCtorEq, ite_true, ite_false, eq_self, List.length_cons, List.length_nil, oz_own, oz_val, pl_3, pl_4, wipe_3, wipe_4, unw_3, unw_4]
def rightQ (n c k : Nat) : Rat := Rat.divInt ((chl n k * (c - 1) ^ (n - k) : Nat) : Int) ((c ^ n : Nat) : Int)
theorem pow_sz {a k : Nat} (ha : a ≤ 8) (hk : k ≤ 64) : a ^ k < 2 ^ 200 :=
  Nat.lt_of_le_of_lt (Nat.le_trans (Nat.pow_le_pow_left ha k) (Nat.pow_le_pow_right (by decide) hk)) (by decide +kernel)
theorem term_sz {n c k : Nat} (hk : k ≤ n) (hn : n ≤ 64) (hc : c ≤ 8) : chl n k * (c - 1) ^ (n - k) < 2 ^ 600 := by
  have h1 : chl n k < 2 ^ 400 := chl_lt hn (by omega)
  have h2 : (c - 1) ^ (n - k) < 2 ^ 200 := pow_sz (by omega) (by omega)
  exact Nat.lt_of_lt_of_le (Nat.mul_lt_mul_of_lt_of_le h1 (Nat.le_of_lt h2) (Nat.pow_pos (by decide))) (by rw [← Nat.pow_add]; exact Nat.le_refl _)
theorem right_sz {n c k : Nat} (hk : k ≤ n) (hn : n ≤ 64) (hc : c ≤ 8) (hc1 : 1 ≤ c) : Sz (rightQ n c k) 600 := by
  unfold rightQ
  exact Sz.divInt (nat_sz (term_sz hk hn hc)) (nat_sz (Nat.lt_trans (pow_sz hc hn) (by decide +kernel))) (by have : 0 < c ^ n := Nat.pow_pos hc1; omega)
theorem right_eq (n c k : Nat) (hk : k ≤ n) (hn : n ≤ 64) (hc : c ≤ 8) (hc1 : 1 ≤ c) : F_chance_right [.val (.int n), .val (.int c), .val (.int k)] = some (.fz (fr (rightQ n c k)), []) := by
  refine eq_of_wO (wO_fn rfl ?_)
  unfold B_chance_right rightQ
  have hp : 0 < c ^ n := Nat.pow_pos hc1
  have e1 : (c : Int) - 1 = ((c - 1 : Nat) : Int) := by omega
  have e2 : (n : Int) - (k : Int) = ((n - k : Nat) : Int) := by omega
  have hf := fraction_eq ((chl n k : Nat) * ((c - 1) ^ (n - k) : Nat)) (c ^ n : Nat) (by omega) (nat_sz (Nat.lt_trans (pow_sz hc hn) (by decide +kernel)))
  have hm : mulOk ((chl n k : Nat) : Int) (((c - 1) ^ (n - k) : Nat) : Int) = true := mul400 (chl_lt hn (by omega)) (Nat.lt_trans (pow_sz (by omega) (by omega)) (by decide +kernel))
  have h0 : (0 : Int) ≤ (k : Int) := by omega
  have h1 : (k : Int) ≤ (n : Int) := by omega
  simp only [↓wO_some, ↓wO_none, ↓wSl_0, ↓wSl_s, ↓wP_0, ↓wP_s, ↓kW_no, ↓kW_val, ↓kW_own, ↓kW_ov, ↓wO_setSlot, ↓wE_C, ↓kB_val, ↓kB_own, ↓kB_io, ↓wE_B, ↓kV_val, ↓kV_own, ↓wE_V, ↓kM_val, ↓kM_own, ↓wE_M, ↓kF_fz, ↓kF_bw, ↓kF_fr, ↓wE_F, ↓wR_fz, ↓kCt_val, ↓kCt_own, ↓kCt_io, ↓wR_bw, ↓wE_bin, ↓wE_un, ↓wA_nil, ↓kA_fz, ↓kA_bw, ↓kA_fr, ↓wA_cons, ↓wRs_nil, ↓wRs_cons, ↓wE_args, ↓wZ_nil, ↓wZ_cons, ↓kSz_0, ↓kSz_1, ↓kSz_2, ↓kSz_3, ↓kSz_4, ↓kSz_5, ↓kSz_6, ↓kSz_7, ↓kSz_8, ↓wE_tup, ↓wE_lst, ↓kT_bool, ↓wT_tst, ↓wT_and, ↓wT_or, ↓wT_not, ↓wT_yes, ↓wE_bool, ↓wE_if, ↓kAs_val, ↓kAs_own, ↓kAs_io, ↓wAs_nil, ↓wAs_fz, ↓wAs_bw, ↓kOut_nil, ↓kOut_nilr, ↓kPut_own, ↓kPut_io, ↓kOut_one, ↓kOut_oner, ↓wE_call, ↓w_add, ↓w_sub, ↓w_mul, ↓w_mulI, ↓w_fdiv, ↓w_mod, ↓w_neg, ↓w_lt, ↓w_le, ↓w_gt, ↓w_ge, ↓w_eq, ↓w_ne, ↓w_abs, ↓w_min2, ↓w_max2, ↓w_int, ↓w_intb, ↓w_pow, ↓w_lenL, ↓w_lenT, ↓w_ixL, ↓w_ixT, ↓w_tupL, ↓w_tupT, ↓w_listL, ↓w_listT, ↓kS_nx, ↓kS_bk, ↓kS_rt, ↓wS_nx, ↓wS_bk, ↓wS_seq, ↓kSt_fz, ↓kSt_fr, ↓wS_set, ↓kR_fz, ↓kR_fr, ↓wS_ret, ↓wS_retN, ↓wS_drop, ↓wS_if, ↓kAg_val, ↓wS_aug, ↓wG_N, ↓wG_T, ↓wGs_nil, ↓wGs_cons, ↓kIt_L, ↓kIt_T, ↓wI_seq, ↓kG1_i, ↓wI_rg1, ↓kG2_i, ↓wI_rg2, ↓wS_for, ↓wS_while, ↓kAz_fz, ↓wS_asg, ↓kL_nx, ↓kL_bk, ↓kL_rt, ↓wE_comp, ↓wU_nil, ↓wU_io, ↓wU_val, ↓kFn_fz, ↓kFn_fr, ↓kFn_nx, ↓wM_append, ↓wM_pop, ↓wM_rev, ↓wM_ins, ↓wM_popAt, ↓kMt_own, ↓kMt_io, ↓wE_mut, ↓wE_mut0, ↓kSi_i, ↓kSo_fz, ↓wS_store, ↓wE_meth, ↓w_addLL, ↓w_addTT, ↓w_mulLI, ↓w_mulTI, ↓w_inTI, ↓w_inLI, ↓w_inTN, ↓w_inLN, ↓w_sumTI, ↓w_sumLI, ↓w_sumTN, ↓w_sumLN, ↓w_cntTI, ↓w_cntTN, ↓w_cntLI, ↓w_cntLN, ↓kTR1_i, ↓kLR1_i, ↓wE_tupRg1, ↓wE_listRg1, ↓kTR2b_i, ↓kTR2_i, ↓kLR2b_i, ↓kLR2_i, ↓w_isN_none, ↓w_isN_bool, ↓w_isN_int, ↓w_isN_str, ↓w_isN_tuple, ↓w_notN_none, ↓w_notN_bool, ↓w_notN_int, ↓w_notN_str, ↓w_notN_tuple, ↓w_eqb, ↓w_eqLN, ↓w_neLN, ↓w_eqTN, ↓w_neTN, ↓w_neb, ↓w_isB, ↓w_notB, ↓w_revL, ↓w_iadd, ↓kW_oz, ↓kPar_2, ↓wS_par, ↓kCh2_b, ↓kCh_fz, ↓wE_chain, ↓w_gcd, ↓kSS_fz, ↓wE_sortSet, ↓w_sortSetI, ↓w_sortSetN, ↓wX_no, ↓kOI_i, ↓wX_yes, ↓wE_sl, ↓w_slT, ↓w_slL, ↓ats0, ↓ats1, ↓ats2, ↓ats3, ↓w_eqOI, ↓w_neOI, ↓w_eqOO, ↓w_isOI, ↓w_notOI, ↓w_revTL, ↓w_revTT, ↓kAuZ_fz, ↓kAuS_i, ↓wS_augS, ↓kEx_fr, ↓kEx_bw, ↓wS_ext, ↓kOn_fz, ↓wE_onFz, ↓w_ss2T, ↓w_ss2L, ↓w_ss2TN, ↓w_ss2LN, ↓w_lsT, ↓w_lsL, ↓w_srtI, ↓w_srtN, ↓w_srtTI, ↓w_srtTN, ↓w_srtP, ↓kG3_i, ↓wI_rg3, ↓wE_comp2, pl_1, pl_2, wipe_1, wipe_2, unw_1, unw_2, List.getD_cons_zero, List.getD_cons_succ, List.set_cons_zero, List.set_cons_succ, List.cons_append, List.nil_append, List.replicate_succ, List.replicate_zero, Nat.reduceSub, Nat.reduceAdd, Nat.reduceLT, plain_no, plain_val, plain_ov, Int.natCast_zero, Int.ofNat_zero, Int.cast_ofNat_Int, decide_eq_true_eq, decide_eq_false_iff_not, Bool.not_eq_true', Bool.not_eq_false', Bool.not_true, Bool.not_false, if_true, if_false, true_and, and_true, forall_const, decide_true, decide_false, Int.toNat_natCast, Int.reduceEq, Int.reduceNe, Int.reduceLT, Int.reduceLE, Int.zero_add, implies_true, true_implies, not_true_eq_false, not_false_eq_true, false_implies, false_and, and_false, reduceCtorEq, ite_true, ite_false, eq_self, List.length_cons, List.length_nil, oz_own, oz_val, pl_3, pl_4, wipe_3, wipe_4, unw_3, unw_4, h0, h1, ways_eq n k hk hn, e1, e2, power_eq (c - 1) (n - k) (by omega), power_eq c n (by omega), hm, hf]
  rw [Int.natCast_mul]
/-- the sum of the first j chances of 1, 2, .. right -/
def Sx (n c : Nat) : Nat → Nat
  | 0 => 0
  | j + 1 => Sx n c j + chl n (j + 1) * (c - 1) ^ (n - (j + 1))
theorem Sx_sz {n c : Nat} (hn : n ≤ 64) (hc : c ≤ 8) : ∀ j, j ≤ n → Sx n c j ≤ j * 2 ^ 600
  | 0, _ => by simp [Sx]
  | j + 1, h => by
    have := Sx_sz hn hc j (by omega)
    have h2 := term_sz (n := n) (c := c) (k := j + 1) h hn hc
    show Sx n c j + _ ≤ _
    rw [Nat.add_mul, Nat.one_mul]
    exact Nat.add_le_add this (Nat.le_of_lt h2)
theorem dadd (a b d : Nat) (hd : 0 < d) : Rat.divInt (a : Nat) (d : Nat) + Rat.divInt (b : Nat) (d : Nat) = Rat.divInt ((a + b : Nat) : Int) (d : Nat) := by
  rw [Rat.divInt_add_divInt _ _ (by omega) (by omega), ← Int.add_mul, Rat.divInt_mul_right (by omega), Int.natCast_add]
theorem pass_eq (n c : Nat) (hn1 : 1 ≤ n) (hn : n ≤ 64) (hc : c ≤ 8) (hc1 : 1 ≤ c) : F_chance_pass [.val (.int n), .val (.int c), .val (.int 1)] = some (.fz (fr (Rat.divInt ((Sx n c n : Nat) : Int) ((c ^ n : Nat) : Int))), []) := by
  refine eq_of_wO (wO_fn rfl ?_)
  unfold B_chance_pass
  have hp : 0 < c ^ n := Nat.pow_pos hc1
  have hmx : max (1 : Int) 0 = 1 := by decide
  simp only [↓wO_some, ↓wO_none, ↓wSl_0, ↓wSl_s, ↓wP_0, ↓wP_s, ↓kW_no, ↓kW_val, ↓kW_own, ↓kW_ov, ↓wO_setSlot, ↓wE_C, ↓kB_val, ↓kB_own, ↓kB_io, ↓wE_B, ↓kV_val, ↓kV_own, ↓wE_V, ↓kM_val, ↓kM_own, ↓wE_M, ↓kF_fz, ↓kF_bw, ↓kF_fr, ↓wE_F, ↓wR_fz, ↓kCt_val, ↓kCt_own, ↓kCt_io, ↓wR_bw, ↓wE_bin, ↓wE_un, ↓wA_nil, ↓kA_fz, ↓kA_bw, ↓kA_fr, ↓wA_cons, ↓wRs_nil, ↓wRs_cons, ↓wE_args, ↓wZ_nil, ↓wZ_cons, ↓kSz_0, ↓kSz_1, ↓kSz_2, ↓kSz_3, ↓kSz_4, ↓kSz_5, ↓kSz_6, ↓kSz_7, ↓kSz_8, ↓wE_tup, ↓wE_lst, ↓kT_bool, ↓wT_tst, ↓wT_and, ↓wT_or, ↓wT_not, ↓wT_yes, ↓wE_bool, ↓wE_if, ↓kAs_val, ↓kAs_own, ↓kAs_io, ↓wAs_nil, ↓wAs_fz, ↓wAs_bw, ↓kOut_nil, ↓kOut_nilr, ↓kPut_own, ↓kPut_io, ↓kOut_one, ↓kOut_oner, ↓wE_call, ↓w_add, ↓w_sub, ↓w_mul, ↓w_mulI, ↓w_fdiv, ↓w_mod, ↓w_neg, ↓w_lt, ↓w_le, ↓w_gt, ↓w_ge, ↓w_eq, ↓w_ne, ↓w_abs, ↓w_min2, ↓w_max2, ↓w_int, ↓w_intb, ↓w_pow, ↓w_lenL, ↓w_lenT, ↓w_ixL, ↓w_ixT, ↓w_tupL, ↓w_tupT, ↓w_listL, ↓w_listT, ↓kS_nx, ↓kS_bk, ↓kS_rt, ↓wS_nx, ↓wS_bk, ↓wS_seq, ↓kSt_fz, ↓kSt_fr, ↓wS_set, ↓kR_fz, ↓kR_fr, ↓wS_ret, ↓wS_retN, ↓wS_drop, ↓wS_if, ↓kAg_val, ↓wS_aug, ↓wG_N, ↓wG_T, ↓wGs_nil, ↓wGs_cons, ↓kIt_L, ↓kIt_T, ↓wI_seq, ↓kG1_i, ↓wI_rg1, ↓kG2_i, ↓wI_rg2, ↓wS_for, ↓wS_while, ↓kAz_fz, ↓wS_asg, ↓kL_nx, ↓kL_bk, ↓kL_rt, ↓wE_comp, ↓wU_nil, ↓wU_io, ↓wU_val, ↓kFn_fz, ↓kFn_fr, ↓kFn_nx, ↓wM_append, ↓wM_pop, ↓wM_rev, ↓wM_ins, ↓wM_popAt, ↓kMt_own, ↓kMt_io, ↓wE_mut, ↓wE_mut0, ↓kSi_i, ↓kSo_fz, ↓wS_store, ↓wE_meth, ↓w_addLL, ↓w_addTT, ↓w_mulLI, ↓w_mulTI, ↓w_inTI, ↓w_inLI, ↓w_inTN, ↓w_inLN, ↓w_sumTI, ↓w_sumLI, ↓w_sumTN, ↓w_sumLN, ↓w_cntTI, ↓w_cntTN, ↓w_cntLI, ↓w_cntLN, ↓kTR1_i, ↓kLR1_i, ↓wE_tupRg1, ↓wE_listRg1, ↓kTR2b_i, ↓kTR2_i, ↓kLR2b_i, ↓kLR2_i, ↓w_isN_none, ↓w_isN_bool, ↓w_isN_int, ↓w_isN_str, ↓w_isN_tuple, ↓w_notN_none, ↓w_notN_bool, ↓w_notN_int, ↓w_notN_str, ↓w_notN_tuple, ↓w_eqb, ↓w_eqLN, ↓w_neLN, ↓w_eqTN, ↓w_neTN, ↓w_neb, ↓w_isB, ↓w_notB, ↓w_revL, ↓w_iadd, ↓kW_oz, ↓kPar_2, ↓wS_par, ↓kCh2_b, ↓kCh_fz, ↓wE_chain, ↓w_gcd, ↓kSS_fz, ↓wE_sortSet, ↓w_sortSetI, ↓w_sortSetN, ↓wX_no, ↓kOI_i, ↓wX_yes, ↓wE_sl, ↓w_slT, ↓w_slL, ↓ats0, ↓ats1, ↓ats2, ↓ats3, ↓w_eqOI, ↓w_neOI, ↓w_eqOO, ↓w_isOI, ↓w_notOI, ↓w_revTL, ↓w_revTT, ↓kAuZ_fz, ↓kAuS_i, ↓wS_augS, ↓kEx_fr, ↓kEx_bw, ↓wS_ext, ↓kOn_fz, ↓wE_onFz, ↓w_ss2T, ↓w_ss2L, ↓w_ss2TN, ↓w_ss2LN, ↓w_lsT, ↓w_lsL, ↓w_srtI, ↓w_srtN, ↓w_srtTI, ↓w_srtTN, ↓w_srtP, ↓kG3_i, ↓wI_rg3, ↓wE_comp2, pl_1, pl_2, wipe_1, wipe_2, unw_1, unw_2, List.getD_cons_zero, List.getD_cons_succ, List.set_cons_zero, List.set_cons_succ, List.cons_append, List.nil_append, List.replicate_succ, List.replicate_zero, Nat.reduceSub, Nat.reduceAdd, Nat.reduceLT, plain_no, plain_val, plain_ov, Int.natCast_zero, Int.ofNat_zero, Int.cast_ofNat_Int, decide_eq_true_eq, decide_eq_false_iff_not, Bool.not_eq_true', Bool.not_eq_false', Bool.not_true, Bool.not_false, if_true, if_false, true_and, and_true, forall_const, decide_true, decide_false, Int.toNat_natCast, Int.reduceEq, Int.reduceNe, Int.reduceLT, Int.reduceLE, Int.zero_add, implies_true, true_implies, not_true_eq_false, not_false_eq_true, false_implies, false_and, and_false, reduceCtorEq, ite_true, ite_false, eq_self, List.length_cons, List.length_nil, oz_own, oz_val, pl_3, pl_4, wipe_3, wipe_4, unw_3, unw_4, hmx]
  rw [show ((n : Int) + 1 - 1).toNat = n by omega]
  refine wL_range (fun j ρ => ∃ (o4 : Option D), ρ = [.val (.int (n : Nat)), .val (.int (c : Nat)), .val (.int 1), .val (fr (Rat.divInt ((Sx n c j : Nat) : Int) ((c ^ n : Nat) : Int))), ov o4]) ⟨none, ?_⟩ ?_ ?_
  · have : Rat.divInt ((Sx n c 0 : Nat) : Int) ((c ^ n : Nat) : Int) = ((0 : Int) : Rat) := by
      show Rat.divInt 0 _ = _
      rw [Rat.zero_divInt]; rfl
    rw [this, fr_int]; rfl
  · rintro j _ hj ⟨o4, rfl⟩
    have e1 : 1 + (j : Int) = ((j + 1 : Nat) : Int) := by omega
    have hs := Sx_sz (n := n) (c := c) hn hc j (by omega)
    have hs2 : Sx n c j < 2 ^ 610 := Nat.lt_of_le_of_lt hs (Nat.lt_of_lt_of_le (Nat.mul_lt_mul_of_pos_right (show j < 2 ^ 10 by omega) (Nat.pow_pos (by decide))) (by rw [← Nat.pow_add]; exact Nat.le_refl _))
    have z1 : Sz (Rat.divInt ((Sx n c j : Nat) : Int) ((c ^ n : Nat) : Int)) 610 := Sz.divInt (nat_sz hs2) (nat_sz (Nat.lt_trans (pow_sz hc hn) (by decide +kernel))) (by omega)
    simp only [↓wO_some, ↓wO_none, ↓wSl_0, ↓wSl_s, ↓wP_0, ↓wP_s, ↓kW_no, ↓kW_val, ↓kW_own, ↓kW_ov, ↓wO_setSlot, ↓wE_C, ↓kB_val, ↓kB_own, ↓kB_io, ↓wE_B, ↓kV_val, ↓kV_own, ↓wE_V, ↓kM_val, ↓kM_own, ↓wE_M, ↓kF_fz, ↓kF_bw, ↓kF_fr, ↓wE_F, ↓wR_fz, ↓kCt_val, ↓kCt_own, ↓kCt_io, ↓wR_bw, ↓wE_bin, ↓wE_un, ↓wA_nil, ↓kA_fz, ↓kA_bw, ↓kA_fr, ↓wA_cons, ↓wRs_nil, ↓wRs_cons, ↓wE_args, ↓wZ_nil, ↓wZ_cons, ↓kSz_0, ↓kSz_1, ↓kSz_2, ↓kSz_3, ↓kSz_4, ↓kSz_5, ↓kSz_6, ↓kSz_7, ↓kSz_8, ↓wE_tup, ↓wE_lst, ↓kT_bool, ↓wT_tst, ↓wT_and, ↓wT_or, ↓wT_not, ↓wT_yes, ↓wE_bool, ↓wE_if, ↓kAs_val, ↓kAs_own, ↓kAs_io, ↓wAs_nil, ↓wAs_fz, ↓wAs_bw, ↓kOut_nil, ↓kOut_nilr, ↓kPut_own, ↓kPut_io, ↓kOut_one, ↓kOut_oner, ↓wE_call, ↓w_add, ↓w_sub, ↓w_mul, ↓w_mulI, ↓w_fdiv, ↓w_mod, ↓w_neg, ↓w_lt, ↓w_le, ↓w_gt, ↓w_ge, ↓w_eq, ↓w_ne, ↓w_abs, ↓w_min2, ↓w_max2, ↓w_int, ↓w_intb, ↓w_pow, ↓w_lenL, ↓w_lenT, ↓w_ixL, ↓w_ixT, ↓w_tupL, ↓w_tupT, ↓w_listL, ↓w_listT, ↓kS_nx, ↓kS_bk, ↓kS_rt, ↓wS_nx, ↓wS_bk, ↓wS_seq, ↓kSt_fz, ↓kSt_fr, ↓wS_set, ↓kR_fz, ↓kR_fr, ↓wS_ret, ↓wS_retN, ↓wS_drop, ↓wS_if, ↓kAg_val, ↓wS_aug, ↓wG_N, ↓wG_T, ↓wGs_nil, ↓wGs_cons, ↓kIt_L, ↓kIt_T, ↓wI_seq, ↓kG1_i, ↓wI_rg1, ↓kG2_i, ↓wI_rg2, ↓wS_for, ↓wS_while, ↓kAz_fz, ↓wS_asg, ↓kL_nx, ↓kL_bk, ↓kL_rt, ↓wE_comp, ↓wU_nil, ↓wU_io, ↓wU_val, ↓kFn_fz, ↓kFn_fr, ↓kFn_nx, ↓wM_append, ↓wM_pop, ↓wM_rev, ↓wM_ins, ↓wM_popAt, ↓kMt_own, ↓kMt_io, ↓wE_mut, ↓wE_mut0, ↓kSi_i, ↓kSo_fz, ↓wS_store, ↓wE_meth, ↓w_addLL, ↓w_addTT, ↓w_mulLI, ↓w_mulTI, ↓w_inTI, ↓w_inLI, ↓w_inTN, ↓w_inLN, ↓w_sumTI, ↓w_sumLI, ↓w_sumTN, ↓w_sumLN, ↓w_cntTI, ↓w_cntTN, ↓w_cntLI, ↓w_cntLN, ↓kTR1_i, ↓kLR1_i, ↓wE_tupRg1, ↓wE_listRg1, ↓kTR2b_i, ↓kTR2_i, ↓kLR2b_i, ↓kLR2_i, ↓w_isN_none, ↓w_isN_bool, ↓w_isN_int, ↓w_isN_str, ↓w_isN_tuple, ↓w_notN_none, ↓w_notN_bool, ↓w_notN_int, ↓w_notN_str, ↓w_notN_tuple, ↓w_eqb, ↓w_eqLN, ↓w_neLN, ↓w_eqTN, ↓w_neTN, ↓w_neb, ↓w_isB, ↓w_notB, ↓w_revL, ↓w_iadd, ↓kW_oz, ↓kPar_2, ↓wS_par, ↓kCh2_b, ↓kCh_fz, ↓wE_chain, ↓w_gcd, ↓kSS_fz, ↓wE_sortSet, ↓w_sortSetI, ↓w_sortSetN, ↓wX_no, ↓kOI_i, ↓wX_yes, ↓wE_sl, ↓w_slT, ↓w_slL, ↓ats0, ↓ats1, ↓ats2, ↓ats3, ↓w_eqOI, ↓w_neOI, ↓w_eqOO, ↓w_isOI, ↓w_notOI, ↓w_revTL, ↓w_revTT, ↓kAuZ_fz, ↓kAuS_i, ↓wS_augS, ↓kEx_fr, ↓kEx_bw, ↓wS_ext, ↓kOn_fz, ↓wE_onFz, ↓w_ss2T, ↓w_ss2L, ↓w_ss2TN, ↓w_ss2LN, ↓w_lsT, ↓w_lsL, ↓w_srtI, ↓w_srtN, ↓w_srtTI, ↓w_srtTN, ↓w_srtP, ↓kG3_i, ↓wI_rg3, ↓wE_comp2, pl_1, pl_2, wipe_1, wipe_2, unw_1, unw_2, List.getD_cons_zero, List.getD_cons_succ, List.set_cons_zero, List.set_cons_succ, List.cons_append, List.nil_append, List.replicate_succ, List.replicate_zero, Nat.reduceSub, Nat.reduceAdd, Nat.reduceLT, plain_no, plain_val, plain_ov, Int.natCast_zero, Int.ofNat_zero, Int.cast_ofNat_Int, decide_eq_true_eq, decide_eq_false_iff_not, Bool.not_eq_true', Bool.not_eq_false', Bool.not_true, Bool.not_false, if_true, if_false, true_and, and_true, forall_const, decide_true, decide_false, Int.toNat_natCast, Int.reduceEq, Int.reduceNe, Int.reduceLT, Int.reduceLE, Int.zero_add, implies_true, true_implies, not_true_eq_false, not_false_eq_true, false_implies, false_and, and_false, reduceCtorEq, ite_true, ite_false, eq_self, List.length_cons, List.length_nil, oz_own, oz_val, pl_3, pl_4, wipe_3, wipe_4, unw_3, unw_4, e1, right_eq n c (j + 1) (by omega) hn hc hc1, plus_eq z1 (right_sz (show j + 1 ≤ n by omega) hn hc hc1) (by decide : 610 + 600 ≤ 9000)]
    refine ⟨some (.int ((j + 1 : Nat) : Int)), ?_⟩
    unfold rightQ
    rw [dadd _ _ _ hp]; rfl
  · rintro _ ⟨o4, rfl⟩
    simp only [↓wO_some, ↓wO_none, ↓wSl_0, ↓wSl_s, ↓wP_0, ↓wP_s, ↓kW_no, ↓kW_val, ↓kW_own, ↓kW_ov, ↓wO_setSlot, ↓wE_C, ↓kB_val, ↓kB_own, ↓kB_io, ↓wE_B, ↓kV_val, ↓kV_own, ↓wE_V, ↓kM_val, ↓kM_own, ↓wE_M, ↓kF_fz, ↓kF_bw, ↓kF_fr, ↓wE_F, ↓wR_fz, ↓kCt_val, ↓kCt_own, ↓kCt_io, ↓wR_bw, ↓wE_bin, ↓wE_un, ↓wA_nil, ↓kA_fz, ↓kA_bw, ↓kA_fr, ↓wA_cons, ↓wRs_nil, ↓wRs_cons, ↓wE_args, ↓wZ_nil, ↓wZ_cons, ↓kSz_0, ↓kSz_1, ↓kSz_2, ↓kSz_3, ↓kSz_4, ↓kSz_5, ↓kSz_6, ↓kSz_7, ↓kSz_8, ↓wE_tup, ↓wE_lst, ↓kT_bool, ↓wT_tst, ↓wT_and, ↓wT_or, ↓wT_not, ↓wT_yes, ↓wE_bool, ↓wE_if, ↓kAs_val, ↓kAs_own, ↓kAs_io, ↓wAs_nil, ↓wAs_fz, ↓wAs_bw, ↓kOut_nil, ↓kOut_nilr, ↓kPut_own, ↓kPut_io, ↓kOut_one, ↓kOut_oner, ↓wE_call, ↓w_add, ↓w_sub, ↓w_mul, ↓w_mulI, ↓w_fdiv, ↓w_mod, ↓w_neg, ↓w_lt, ↓w_le, ↓w_gt, ↓w_ge, ↓w_eq, ↓w_ne, ↓w_abs, ↓w_min2, ↓w_max2, ↓w_int, ↓w_intb, ↓w_pow, ↓w_lenL, ↓w_lenT, ↓w_ixL, ↓w_ixT, ↓w_tupL, ↓w_tupT, ↓w_listL, ↓w_listT, ↓kS_nx, ↓kS_bk, ↓kS_rt, ↓wS_nx, ↓wS_bk, ↓wS_seq, ↓kSt_fz, ↓kSt_fr, ↓wS_set, ↓kR_fz, ↓kR_fr, ↓wS_ret, ↓wS_retN, ↓wS_drop, ↓wS_if, ↓kAg_val, ↓wS_aug, ↓wG_N, ↓wG_T, ↓wGs_nil, ↓wGs_cons, ↓kIt_L, ↓kIt_T, ↓wI_seq, ↓kG1_i, ↓wI_rg1, ↓kG2_i, ↓wI_rg2, ↓wS_for, ↓wS_while, ↓kAz_fz, ↓wS_asg, ↓kL_nx, ↓kL_bk, ↓kL_rt, ↓wE_comp, ↓wU_nil, ↓wU_io, ↓wU_val, ↓kFn_fz, ↓kFn_fr, ↓kFn_nx, ↓wM_append, ↓wM_pop, ↓wM_rev, ↓wM_ins, ↓wM_popAt, ↓kMt_own, ↓kMt_io, ↓wE_mut, ↓wE_mut0, ↓kSi_i, ↓kSo_fz, ↓wS_store, ↓wE_meth, ↓w_addLL, ↓w_addTT, ↓w_mulLI, ↓w_mulTI, ↓w_inTI, ↓w_inLI, ↓w_inTN, ↓w_inLN, ↓w_sumTI, ↓w_sumLI, ↓w_sumTN, ↓w_sumLN, ↓w_cntTI, ↓w_cntTN, ↓w_cntLI, ↓w_cntLN, ↓kTR1_i, ↓kLR1_i, ↓wE_tupRg1, ↓wE_listRg1, ↓kTR2b_i, ↓kTR2_i, ↓kLR2b_i, ↓kLR2_i, ↓w_isN_none, ↓w_isN_bool, ↓w_isN_int, ↓w_isN_str, ↓w_isN_tuple, ↓w_notN_none, ↓w_notN_bool, ↓w_notN_int, ↓w_notN_str, ↓w_notN_tuple, ↓w_eqb, ↓w_eqLN, ↓w_neLN, ↓w_eqTN, ↓w_neTN, ↓w_neb, ↓w_isB, ↓w_notB, ↓w_revL, ↓w_iadd, ↓kW_oz, ↓kPar_2, ↓wS_par, ↓kCh2_b, ↓kCh_fz, ↓wE_chain, ↓w_gcd, ↓kSS_fz, ↓wE_sortSet, ↓w_sortSetI, ↓w_sortSetN, ↓wX_no, ↓kOI_i, ↓wX_yes, ↓wE_sl, ↓w_slT, ↓w_slL, ↓ats0, ↓ats1, ↓ats2, ↓ats3, ↓w_eqOI, ↓w_neOI, ↓w_eqOO, ↓w_isOI, ↓w_notOI, ↓w_revTL, ↓w_revTT, ↓kAuZ_fz, ↓kAuS_i, ↓wS_augS, ↓kEx_fr, ↓kEx_bw, ↓wS_ext, ↓kOn_fz, ↓wE_onFz, ↓w_ss2T, ↓w_ss2L, ↓w_ss2TN, ↓w_ss2LN, ↓w_lsT, ↓w_lsL, ↓w_srtI, ↓w_srtN, ↓w_srtTI, ↓w_srtTN, ↓w_srtP, ↓kG3_i, ↓wI_rg3, ↓wE_comp2, pl_1, pl_2, wipe_1, wipe_2, unw_1, unw_2, List.getD_cons_zero, List.getD_cons_succ, List.set_cons_zero, List.set_cons_succ, List.cons_append, List.nil_append, List.replicate_succ, List.replicate_zero, Nat.reduceSub, Nat.reduceAdd, Nat.reduceLT, plain_no, plain_val, plain_ov, Int.natCast_zero, Int.ofNat_zero, Int.cast_ofNat_Int, decide_eq_true_eq, decide_eq_false_iff_not, Bool.not_eq_true', Bool.not_eq_false', Bool.not_true, Bool.not_false, if_true, if_false, true_and, and_true, forall_const, decide_true, decide_false, Int.toNat_natCast, Int.reduceEq, Int.reduceNe, Int.reduceLT, Int.reduceLE, Int.zero_add, implies_true, true_implies, not_true_eq_false, not_false_eq_true, false_implies, false_and, and_false, reduceCtorEq, ite_true, ite_false, eq_self, List.length_cons, List.length_nil, oz_own, oz_val, pl_3, pl_4, wipe_3, wipe_4, unw_3, unw_4]
/-! ### the finite part -/
def okF (c m k : Nat) : Bool := decide (0 < chl (c * m) k) && decide (chl (c * m - m) k * c ^ k ≤ (c - 1) ^ k * chl (c * m) k) && (decide (chl (c * m - m) k * c ^ k = (c - 1) ^ k * chl (c * m) k) == decide (k < 2)) &&
  decide (chl m k * c ^ k ≤ chl (c * m) k) && (decide (2 ≤ k) || decide (chl m k * c ^ k = chl (c * m) k))
theorem okF_all : ((List.range 7).all fun c => (List.range 25).all fun m => (decide (c < 2) || decide (m = 0) || decide (48 < c * m)) || (List.range (c * m + 1)).all fun k => okF c m k) = true := by kernel_rfl
def okG (c k : Nat) : Bool := decide (chl k k = 1) && decide (Sx k c k + (c - 1) ^ k = c ^ k)
theorem okG_all : ((List.range 7).all fun c => (List.range 49).all fun k => decide (c < 2) || okG c k) = true := by kernel_rfl
theorem okF_fin {c m k : Nat} (hc : 2 ≤ c) (hc6 : c ≤ 6) (hm : 1 ≤ m) (hcm : c * m ≤ 48) (hk : k ≤ c * m) : 0 < chl (c * m) k ∧ chl (c * m - m) k * c ^ k ≤ (c - 1) ^ k * chl (c * m) k ∧ (chl (c * m - m) k * c ^ k = (c - 1) ^ k * chl (c * m) k ↔ k < 2) ∧
    chl m k * c ^ k ≤ chl (c * m) k ∧ (k < 2 → chl m k * c ^ k = chl (c * m) k) := by
  have hm24 : m < 25 := by
    have : 2 * m ≤ c * m := Nat.mul_le_mul_right m hc
    omega
  have h1 := List.all_eq_true.mp okF_all c (List.mem_range.mpr (by omega))
  have h2 := List.all_eq_true.mp h1 m (List.mem_range.mpr hm24)
  rw [decide_eq_false (by omega), decide_eq_false (by omega), decide_eq_false (by omega), Bool.or_false, Bool.or_false, Bool.false_or] at h2
  have h3 := List.all_eq_true.mp h2 k (List.mem_range.mpr (by omega))
  unfold okF at h3
  simp only [Bool.and_eq_true, decide_eq_true_eq, Bool.or_eq_true, beq_iff_eq, decide_eq_decide] at h3
  obtain ⟨⟨⟨⟨a, b⟩, d⟩, e⟩, f⟩ := h3
  exact ⟨a, b, d, e, fun h => by rcases f with f | f; omega; exact f⟩
theorem okG_fin {c k : Nat} (hc : 2 ≤ c) (hc6 : c ≤ 6) (hk : k ≤ 48) : chl k k = 1 ∧ Sx k c k + (c - 1) ^ k = c ^ k := by
  have h1 := List.all_eq_true.mp okG_all c (List.mem_range.mpr (by omega))
  have h2 := List.all_eq_true.mp h1 k (List.mem_range.mpr (by omega))
  rw [decide_eq_false (by omega), Bool.false_or] at h2
  unfold okG at h2
  simpa only [Bool.and_eq_true, decide_eq_true_eq] using h2
end K89


set_option Elab.async false
set_option linter.all false
set_option maxRecDepth 100000
namespace K89
open PySem PySem.Spec Ev
open L2 (ixN)
theorem none_nat (c m k : Nat) (hc : 1 ≤ c) : foundQ ((c * m : Nat) : Int) (m : Int) (k : Int) 0 = Rat.divInt ((chl (c * m - m) k : Nat) : Int) ((chl (c * m) k : Nat) : Int) := by
  unfold foundQ
  have h1 : m ≤ c * m := Nat.le_mul_of_pos_left m hc
  rw [show (k : Int) - 0 = (k : Int) by omega, show ((c * m : Nat) : Int) - (m : Int) = ((c * m - m : Nat) : Int) by omega, chI_nat, chI_nat, show chI (m : Int) 0 = 1 from chI_nat m 0, Nat.one_mul]
theorem wrong_nat (c k : Nat) : rightQ k c 0 = Rat.divInt (((c - 1) ^ k : Nat) : Int) ((c ^ k : Nat) : Int) := by
  unfold rightQ
  rw [show chl k 0 = 1 from rfl, Nat.one_mul, Nat.sub_zero]
theorem none_le {c m k : Nat} (hc : 2 ≤ c) (hc6 : c ≤ 6) (hm : 1 ≤ m) (hcm : c * m ≤ 48) (hk : k ≤ c * m) : foundQ ((c * m : Nat) : Int) (m : Int) (k : Int) 0 ≤ rightQ k c 0 ∧ (foundQ ((c * m : Nat) : Int) (m : Int) (k : Int) 0 = rightQ k c 0 ↔ k < 2) := by
  obtain ⟨f1, f2, f3, f4, f5⟩ := okF_fin hc hc6 hm hcm hk
  rw [none_nat c m k (by omega), wrong_nat]
  rw [dle_iff f1 (Nat.pow_pos (by omega)), deq_iff f1 (Nat.pow_pos (by omega))]
  exact ⟨f2, f3⟩
theorem chances_right (c m k : Nat) (hc : 2 ≤ c) (hc6 : c ≤ 6) (hm : 1 ≤ m) (hcm : c * m ≤ 48) (hk : k ≤ c * m) : F__law_are_chances_right [.val (.int (c * m : Nat)), .val (.int c), .val (.int k)] = some (.fz (.bool true), []) := by
  refine eq_of_wO (wO_fn rfl ?_)
  unfold B__law_are_chances_right
  have hmn : m ≤ c * m := Nat.le_mul_of_pos_left m (by omega)
  have hdv : c * m / c = m := Nat.mul_div_cancel_left m (by omega)
  obtain ⟨f1, f2, f3, f4, f5⟩ := okF_fin hc hc6 hm hcm hk
  obtain ⟨g1, g2⟩ := okG_fin hc hc6 (show k ≤ 48 by omega)
  have hck : 0 < c ^ k := Nat.pow_pos (by omega)
  have hci : 0 < chI ((c * m : Nat) : Int) (k : Int) := by rw [chI_nat]; exact f1
  obtain ⟨hle, heq⟩ := none_le hc hc6 hm hcm hk
  have hnz := found_sz (n := (c * m : Nat)) (b := m) (k := k) (f := 0) (by omega) (by omega) (by omega) hci
  have hrz := right_sz (n := k) (c := c) (k := 0) (Nat.zero_le _) (by omega) (by omega) (by omega)
  have hz0 : ((0 : Nat) : Int) = 0 := rfl
  have hr0 := right_eq k c 0 (Nat.zero_le _) (by omega) (by omega) (by omega)
  rw [hz0] at hr0
  simp only [↓wO_some, ↓wO_none, ↓wSl_0, ↓wSl_s, ↓wP_0, ↓wP_s, ↓kW_no, ↓kW_val, ↓kW_own, ↓kW_ov, ↓wO_setSlot, ↓wE_C, ↓kB_val, ↓kB_own, ↓kB_io, ↓wE_B, ↓kV_val, ↓kV_own, ↓wE_V, ↓kM_val, ↓kM_own, ↓wE_M, ↓kF_fz, ↓kF_bw, ↓kF_fr, ↓wE_F, ↓wR_fz, ↓kCt_val, ↓kCt_own, ↓kCt_io, ↓wR_bw, ↓wE_bin, ↓wE_un, ↓wA_nil, ↓kA_fz, ↓kA_bw, ↓kA_fr, ↓wA_cons, ↓wRs_nil, ↓wRs_cons, ↓wE_args, ↓wZ_nil, ↓wZ_cons, ↓kSz_0, ↓kSz_1, ↓kSz_2, ↓kSz_3, ↓kSz_4, ↓kSz_5, ↓kSz_6, ↓kSz_7, ↓kSz_8, ↓wE_tup, ↓wE_lst, ↓kT_bool, ↓wT_tst, ↓wT_and, ↓wT_or, ↓wT_not, ↓wT_yes, ↓wE_bool, ↓wE_if, ↓kAs_val, ↓kAs_own, ↓kAs_io, ↓wAs_nil, ↓wAs_fz, ↓wAs_bw, ↓kOut_nil, ↓kOut_nilr, ↓kPut_own, ↓kPut_io, ↓kOut_one, ↓kOut_oner, ↓wE_call, ↓w_add, ↓w_sub, ↓w_mul, ↓w_mulI, ↓w_fdiv, ↓w_mod, ↓w_neg, ↓w_lt, ↓w_le, ↓w_gt, ↓w_ge, ↓w_eq, ↓w_ne, ↓w_abs, ↓w_min2, ↓w_max2, ↓w_int, ↓w_intb, ↓w_pow, ↓w_lenL, ↓w_lenT, ↓w_ixL, ↓w_ixT, ↓w_tupL, ↓w_tupT, ↓w_listL, ↓w_listT, ↓kS_nx, ↓kS_bk, ↓kS_rt, ↓wS_nx, ↓wS_bk, ↓wS_seq, ↓kSt_fz, ↓kSt_fr, ↓wS_set, ↓kR_fz, ↓kR_fr, ↓wS_ret, ↓wS_retN, ↓wS_drop, ↓wS_if, ↓kAg_val, ↓wS_aug, ↓wG_N, ↓wG_T, ↓wGs_nil, ↓wGs_cons, ↓kIt_L, ↓kIt_T, ↓wI_seq, ↓kG1_i, ↓wI_rg1, ↓kG2_i, ↓wI_rg2, ↓wS_for, ↓wS_while, ↓kAz_fz, ↓wS_asg, ↓kL_nx, ↓kL_bk, ↓kL_rt, ↓wE_comp, ↓wU_nil, ↓wU_io, ↓wU_val, ↓kFn_fz, ↓kFn_fr, ↓kFn_nx, ↓wM_append, ↓wM_pop, ↓wM_rev, ↓wM_ins, ↓wM_popAt, ↓kMt_own, ↓kMt_io, ↓wE_mut, ↓wE_mut0, ↓kSi_i, ↓kSo_fz, ↓wS_store, ↓wE_meth, ↓w_addLL, ↓w_addTT, ↓w_mulLI, ↓w_mulTI, ↓w_inTI, ↓w_inLI, ↓w_inTN, ↓w_inLN, ↓w_sumTI, ↓w_sumLI, ↓w_sumTN, ↓w_sumLN, ↓w_cntTI, ↓w_cntTN, ↓w_cntLI, ↓w_cntLN, ↓kTR1_i, ↓kLR1_i, ↓wE_tupRg1, ↓wE_listRg1, ↓kTR2b_i, ↓kTR2_i, ↓kLR2b_i, ↓kLR2_i, ↓w_isN_none, ↓w_isN_bool, ↓w_isN_int, ↓w_isN_str, ↓w_isN_tuple, ↓w_notN_none, ↓w_notN_bool, ↓w_notN_int, ↓w_notN_str, ↓w_notN_tuple, ↓w_eqb, ↓w_eqLN, ↓w_neLN, ↓w_eqTN, ↓w_neTN, ↓w_neb, ↓w_isB, ↓w_notB, ↓w_revL, ↓w_iadd, ↓kW_oz, ↓kPar_2, ↓wS_par, ↓kCh2_b, ↓kCh_fz, ↓wE_chain, ↓w_gcd, ↓kSS_fz, ↓wE_sortSet, ↓w_sortSetI, ↓w_sortSetN, ↓wX_no, ↓kOI_i, ↓wX_yes, ↓wE_sl, ↓w_slT, ↓w_slL, ↓ats0, ↓ats1, ↓ats2, ↓ats3, ↓w_eqOI, ↓w_neOI, ↓w_eqOO, ↓w_isOI, ↓w_notOI, ↓w_revTL, ↓w_revTT, ↓kAuZ_fz, ↓kAuS_i, ↓wS_augS, ↓kEx_fr, ↓kEx_bw, ↓wS_ext, ↓kOn_fz, ↓wE_onFz, ↓w_ss2T, ↓w_ss2L, ↓w_ss2TN, ↓w_ss2LN, ↓w_lsT, ↓w_lsL, ↓w_srtI, ↓w_srtN, ↓w_srtTI, ↓w_srtTN, ↓w_srtP, ↓kG3_i, ↓wI_rg3, ↓wE_comp2, pl_1, pl_2, wipe_1, wipe_2, unw_1, unw_2, List.getD_cons_zero, List.getD_cons_succ, List.set_cons_zero, List.set_cons_succ, List.cons_append, List.nil_append, List.replicate_succ, List.replicate_zero, Nat.reduceSub, Nat.reduceAdd, Nat.reduceLT, plain_no, plain_val, plain_ov, Int.natCast_zero, Int.ofNat_zero, Int.cast_ofNat_Int, decide_eq_true_eq, decide_eq_false_iff_not, Bool.not_eq_true', Bool.not_eq_false', Bool.not_true, Bool.not_false, if_true, if_false, true_and, and_true, forall_const, decide_true, decide_false, Int.toNat_natCast, Int.reduceEq, Int.reduceNe, Int.reduceLT, Int.reduceLE, Int.zero_add, implies_true, true_implies, not_true_eq_false, not_false_eq_true, false_implies, false_and, and_false, reduceCtorEq, ite_true, ite_false, eq_self, List.length_cons, List.length_nil, oz_own, oz_val, pl_3, pl_4, wipe_3, wipe_4, unw_3, unw_4, dk (show 1 ≤ c by omega) (by omega), fdiv_nat, hdv, B__law_are_chances_right_1, mean_eq (c * m) m k (by omega) (by omega) (by omega)]
  have hmr : F_mean_right [.val (.int k), .val (.int c)] = some (.fz (fr (Rat.divInt (k : Nat) (c : Nat))), []) := by
    refine eq_of_wO (wO_fn rfl ?_)
    unfold B_mean_right
    simp only [↓wO_some, ↓wO_none, ↓wSl_0, ↓wSl_s, ↓wP_0, ↓wP_s, ↓kW_no, ↓kW_val, ↓kW_own, ↓kW_ov, ↓wO_setSlot, ↓wE_C, ↓kB_val, ↓kB_own, ↓kB_io, ↓wE_B, ↓kV_val, ↓kV_own, ↓wE_V, ↓kM_val, ↓kM_own, ↓wE_M, ↓kF_fz, ↓kF_bw, ↓kF_fr, ↓wE_F, ↓wR_fz, ↓kCt_val, ↓kCt_own, ↓kCt_io, ↓wR_bw, ↓wE_bin, ↓wE_un, ↓wA_nil, ↓kA_fz, ↓kA_bw, ↓kA_fr, ↓wA_cons, ↓wRs_nil, ↓wRs_cons, ↓wE_args, ↓wZ_nil, ↓wZ_cons, ↓kSz_0, ↓kSz_1, ↓kSz_2, ↓kSz_3, ↓kSz_4, ↓kSz_5, ↓kSz_6, ↓kSz_7, ↓kSz_8, ↓wE_tup, ↓wE_lst, ↓kT_bool, ↓wT_tst, ↓wT_and, ↓wT_or, ↓wT_not, ↓wT_yes, ↓wE_bool, ↓wE_if, ↓kAs_val, ↓kAs_own, ↓kAs_io, ↓wAs_nil, ↓wAs_fz, ↓wAs_bw, ↓kOut_nil, ↓kOut_nilr, ↓kPut_own, ↓kPut_io, ↓kOut_one, ↓kOut_oner, ↓wE_call, ↓w_add, ↓w_sub, ↓w_mul, ↓w_mulI, ↓w_fdiv, ↓w_mod, ↓w_neg, ↓w_lt, ↓w_le, ↓w_gt, ↓w_ge, ↓w_eq, ↓w_ne, ↓w_abs, ↓w_min2, ↓w_max2, ↓w_int, ↓w_intb, ↓w_pow, ↓w_lenL, ↓w_lenT, ↓w_ixL, ↓w_ixT, ↓w_tupL, ↓w_tupT, ↓w_listL, ↓w_listT, ↓kS_nx, ↓kS_bk, ↓kS_rt, ↓wS_nx, ↓wS_bk, ↓wS_seq, ↓kSt_fz, ↓kSt_fr, ↓wS_set, ↓kR_fz, ↓kR_fr, ↓wS_ret, ↓wS_retN, ↓wS_drop, ↓wS_if, ↓kAg_val, ↓wS_aug, ↓wG_N, ↓wG_T, ↓wGs_nil, ↓wGs_cons, ↓kIt_L, ↓kIt_T, ↓wI_seq, ↓kG1_i, ↓wI_rg1, ↓kG2_i, ↓wI_rg2, ↓wS_for, ↓wS_while, ↓kAz_fz, ↓wS_asg, ↓kL_nx, ↓kL_bk, ↓kL_rt, ↓wE_comp, ↓wU_nil, ↓wU_io, ↓wU_val, ↓kFn_fz, ↓kFn_fr, ↓kFn_nx, ↓wM_append, ↓wM_pop, ↓wM_rev, ↓wM_ins, ↓wM_popAt, ↓kMt_own, ↓kMt_io, ↓wE_mut, ↓wE_mut0, ↓kSi_i, ↓kSo_fz, ↓wS_store, ↓wE_meth, ↓w_addLL, ↓w_addTT, ↓w_mulLI, ↓w_mulTI, ↓w_inTI, ↓w_inLI, ↓w_inTN, ↓w_inLN, ↓w_sumTI, ↓w_sumLI, ↓w_sumTN, ↓w_sumLN, ↓w_cntTI, ↓w_cntTN, ↓w_cntLI, ↓w_cntLN, ↓kTR1_i, ↓kLR1_i, ↓wE_tupRg1, ↓wE_listRg1, ↓kTR2b_i, ↓kTR2_i, ↓kLR2b_i, ↓kLR2_i, ↓w_isN_none, ↓w_isN_bool, ↓w_isN_int, ↓w_isN_str, ↓w_isN_tuple, ↓w_notN_none, ↓w_notN_bool, ↓w_notN_int, ↓w_notN_str, ↓w_notN_tuple, ↓w_eqb, ↓w_eqLN, ↓w_neLN, ↓w_eqTN, ↓w_neTN, ↓w_neb, ↓w_isB, ↓w_notB, ↓w_revL, ↓w_iadd, ↓kW_oz, ↓kPar_2, ↓wS_par, ↓kCh2_b, ↓kCh_fz, ↓wE_chain, ↓w_gcd, ↓kSS_fz, ↓wE_sortSet, ↓w_sortSetI, ↓w_sortSetN, ↓wX_no, ↓kOI_i, ↓wX_yes, ↓wE_sl, ↓w_slT, ↓w_slL, ↓ats0, ↓ats1, ↓ats2, ↓ats3, ↓w_eqOI, ↓w_neOI, ↓w_eqOO, ↓w_isOI, ↓w_notOI, ↓w_revTL, ↓w_revTT, ↓kAuZ_fz, ↓kAuS_i, ↓wS_augS, ↓kEx_fr, ↓kEx_bw, ↓wS_ext, ↓kOn_fz, ↓wE_onFz, ↓w_ss2T, ↓w_ss2L, ↓w_ss2TN, ↓w_ss2LN, ↓w_lsT, ↓w_lsL, ↓w_srtI, ↓w_srtN, ↓w_srtTI, ↓w_srtTN, ↓w_srtP, ↓kG3_i, ↓wI_rg3, ↓wE_comp2, pl_1, pl_2, wipe_1, wipe_2, unw_1, unw_2, List.getD_cons_zero, List.getD_cons_succ, List.set_cons_zero, List.set_cons_succ, List.cons_append, List.nil_append, List.replicate_succ, List.replicate_zero, Nat.reduceSub, Nat.reduceAdd, Nat.reduceLT, plain_no, plain_val, plain_ov, Int.natCast_zero, Int.ofNat_zero, Int.cast_ofNat_Int, decide_eq_true_eq, decide_eq_false_iff_not, Bool.not_eq_true', Bool.not_eq_false', Bool.not_true, Bool.not_false, if_true, if_false, true_and, and_true, forall_const, decide_true, decide_false, Int.toNat_natCast, Int.reduceEq, Int.reduceNe, Int.reduceLT, Int.reduceLE, Int.zero_add, implies_true, true_implies, not_true_eq_false, not_false_eq_true, false_implies, false_and, and_false, reduceCtorEq, ite_true, ite_false, eq_self, List.length_cons, List.length_nil, oz_own, oz_val, pl_3, pl_4, wipe_3, wipe_4, unw_3, unw_4, fraction_eq (k : Nat) (c : Nat) (by omega) (nat_sz (Nat.lt_of_lt_of_le (show c < 2 ^ 3 by omega) (Nat.pow_le_pow_right (by decide) (by decide))))]
  simp only [↓wO_some, ↓wO_none, ↓wSl_0, ↓wSl_s, ↓wP_0, ↓wP_s, ↓kW_no, ↓kW_val, ↓kW_own, ↓kW_ov, ↓wO_setSlot, ↓wE_C, ↓kB_val, ↓kB_own, ↓kB_io, ↓wE_B, ↓kV_val, ↓kV_own, ↓wE_V, ↓kM_val, ↓kM_own, ↓wE_M, ↓kF_fz, ↓kF_bw, ↓kF_fr, ↓wE_F, ↓wR_fz, ↓kCt_val, ↓kCt_own, ↓kCt_io, ↓wR_bw, ↓wE_bin, ↓wE_un, ↓wA_nil, ↓kA_fz, ↓kA_bw, ↓kA_fr, ↓wA_cons, ↓wRs_nil, ↓wRs_cons, ↓wE_args, ↓wZ_nil, ↓wZ_cons, ↓kSz_0, ↓kSz_1, ↓kSz_2, ↓kSz_3, ↓kSz_4, ↓kSz_5, ↓kSz_6, ↓kSz_7, ↓kSz_8, ↓wE_tup, ↓wE_lst, ↓kT_bool, ↓wT_tst, ↓wT_and, ↓wT_or, ↓wT_not, ↓wT_yes, ↓wE_bool, ↓wE_if, ↓kAs_val, ↓kAs_own, ↓kAs_io, ↓wAs_nil, ↓wAs_fz, ↓wAs_bw, ↓kOut_nil, ↓kOut_nilr, ↓kPut_own, ↓kPut_io, ↓kOut_one, ↓kOut_oner, ↓wE_call, ↓w_add, ↓w_sub, ↓w_mul, ↓w_mulI, ↓w_fdiv, ↓w_mod, ↓w_neg, ↓w_lt, ↓w_le, ↓w_gt, ↓w_ge, ↓w_eq, ↓w_ne, ↓w_abs, ↓w_min2, ↓w_max2, ↓w_int, ↓w_intb, ↓w_pow, ↓w_lenL, ↓w_lenT, ↓w_ixL, ↓w_ixT, ↓w_tupL, ↓w_tupT, ↓w_listL, ↓w_listT, ↓kS_nx, ↓kS_bk, ↓kS_rt, ↓wS_nx, ↓wS_bk, ↓wS_seq, ↓kSt_fz, ↓kSt_fr, ↓wS_set, ↓kR_fz, ↓kR_fr, ↓wS_ret, ↓wS_retN, ↓wS_drop, ↓wS_if, ↓kAg_val, ↓wS_aug, ↓wG_N, ↓wG_T, ↓wGs_nil, ↓wGs_cons, ↓kIt_L, ↓kIt_T, ↓wI_seq, ↓kG1_i, ↓wI_rg1, ↓kG2_i, ↓wI_rg2, ↓wS_for, ↓wS_while, ↓kAz_fz, ↓wS_asg, ↓kL_nx, ↓kL_bk, ↓kL_rt, ↓wE_comp, ↓wU_nil, ↓wU_io, ↓wU_val, ↓kFn_fz, ↓kFn_fr, ↓kFn_nx, ↓wM_append, ↓wM_pop, ↓wM_rev, ↓wM_ins, ↓wM_popAt, ↓kMt_own, ↓kMt_io, ↓wE_mut, ↓wE_mut0, ↓kSi_i, ↓kSo_fz, ↓wS_store, ↓wE_meth, ↓w_addLL, ↓w_addTT, ↓w_mulLI, ↓w_mulTI, ↓w_inTI, ↓w_inLI, ↓w_inTN, ↓w_inLN, ↓w_sumTI, ↓w_sumLI, ↓w_sumTN, ↓w_sumLN, ↓w_cntTI, ↓w_cntTN, ↓w_cntLI, ↓w_cntLN, ↓kTR1_i, ↓kLR1_i, ↓wE_tupRg1, ↓wE_listRg1, ↓kTR2b_i, ↓kTR2_i, ↓kLR2b_i, ↓kLR2_i, ↓w_isN_none, ↓w_isN_bool, ↓w_isN_int, ↓w_isN_str, ↓w_isN_tuple, ↓w_notN_none, ↓w_notN_bool, ↓w_notN_int, ↓w_notN_str, ↓w_notN_tuple, ↓w_eqb, ↓w_eqLN, ↓w_neLN, ↓w_eqTN, ↓w_neTN, ↓w_neb, ↓w_isB, ↓w_notB, ↓w_revL, ↓w_iadd, ↓kW_oz, ↓kPar_2, ↓wS_par, ↓kCh2_b, ↓kCh_fz, ↓wE_chain, ↓w_gcd, ↓kSS_fz, ↓wE_sortSet, ↓w_sortSetI, ↓w_sortSetN, ↓wX_no, ↓kOI_i, ↓wX_yes, ↓wE_sl, ↓w_slT, ↓w_slL, ↓ats0, ↓ats1, ↓ats2, ↓ats3, ↓w_eqOI, ↓w_neOI, ↓w_eqOO, ↓w_isOI, ↓w_notOI, ↓w_revTL, ↓w_revTT, ↓kAuZ_fz, ↓kAuS_i, ↓wS_augS, ↓kEx_fr, ↓kEx_bw, ↓wS_ext, ↓kOn_fz, ↓wE_onFz, ↓w_ss2T, ↓w_ss2L, ↓w_ss2TN, ↓w_ss2LN, ↓w_lsT, ↓w_lsL, ↓w_srtI, ↓w_srtN, ↓w_srtTI, ↓w_srtTN, ↓w_srtP, ↓kG3_i, ↓wI_rg3, ↓wE_comp2, pl_1, pl_2, wipe_1, wipe_2, unw_1, unw_2, List.getD_cons_zero, List.getD_cons_succ, List.set_cons_zero, List.set_cons_succ, List.cons_append, List.nil_append, List.replicate_succ, List.replicate_zero, Nat.reduceSub, Nat.reduceAdd, Nat.reduceLT, plain_no, plain_val, plain_ov, Int.natCast_zero, Int.ofNat_zero, Int.cast_ofNat_Int, decide_eq_true_eq, decide_eq_false_iff_not, Bool.not_eq_true', Bool.not_eq_false', Bool.not_true, Bool.not_false, if_true, if_false, true_and, and_true, forall_const, decide_true, decide_false, Int.toNat_natCast, Int.reduceEq, Int.reduceNe, Int.reduceLT, Int.reduceLE, Int.zero_add, implies_true, true_implies, not_true_eq_false, not_false_eq_true, false_implies, false_and, and_false, reduceCtorEq, ite_true, ite_false, eq_self, List.length_cons, List.length_nil, oz_own, oz_val, pl_3, pl_4, wipe_3, wipe_4, unw_3, unw_4, hmr]
  refine sameB_spec ?_ (fr_pl _ _) ?_
  · congr 1
    rw [deq_iff (by omega) (by omega)]
    rw [Nat.mul_comm m k, Nat.mul_assoc, Nat.mul_comm m c]
  simp only [↓wO_some, ↓wO_none, ↓wSl_0, ↓wSl_s, ↓wP_0, ↓wP_s, ↓kW_no, ↓kW_val, ↓kW_own, ↓kW_ov, ↓wO_setSlot, ↓wE_C, ↓kB_val, ↓kB_own, ↓kB_io, ↓wE_B, ↓kV_val, ↓kV_own, ↓wE_V, ↓kM_val, ↓kM_own, ↓wE_M, ↓kF_fz, ↓kF_bw, ↓kF_fr, ↓wE_F, ↓wR_fz, ↓kCt_val, ↓kCt_own, ↓kCt_io, ↓wR_bw, ↓wE_bin, ↓wE_un, ↓wA_nil, ↓kA_fz, ↓kA_bw, ↓kA_fr, ↓wA_cons, ↓wRs_nil, ↓wRs_cons, ↓wE_args, ↓wZ_nil, ↓wZ_cons, ↓kSz_0, ↓kSz_1, ↓kSz_2, ↓kSz_3, ↓kSz_4, ↓kSz_5, ↓kSz_6, ↓kSz_7, ↓kSz_8, ↓wE_tup, ↓wE_lst, ↓kT_bool, ↓wT_tst, ↓wT_and, ↓wT_or, ↓wT_not, ↓wT_yes, ↓wE_bool, ↓wE_if, ↓kAs_val, ↓kAs_own, ↓kAs_io, ↓wAs_nil, ↓wAs_fz, ↓wAs_bw, ↓kOut_nil, ↓kOut_nilr, ↓kPut_own, ↓kPut_io, ↓kOut_one, ↓kOut_oner, ↓wE_call, ↓w_add, ↓w_sub, ↓w_mul, ↓w_mulI, ↓w_fdiv, ↓w_mod, ↓w_neg, ↓w_lt, ↓w_le, ↓w_gt, ↓w_ge, ↓w_eq, ↓w_ne, ↓w_abs, ↓w_min2, ↓w_max2, ↓w_int, ↓w_intb, ↓w_pow, ↓w_lenL, ↓w_lenT, ↓w_ixL, ↓w_ixT, ↓w_tupL, ↓w_tupT, ↓w_listL, ↓w_listT, ↓kS_nx, ↓kS_bk, ↓kS_rt, ↓wS_nx, ↓wS_bk, ↓wS_seq, ↓kSt_fz, ↓kSt_fr, ↓wS_set, ↓kR_fz, ↓kR_fr, ↓wS_ret, ↓wS_retN, ↓wS_drop, ↓wS_if, ↓kAg_val, ↓wS_aug, ↓wG_N, ↓wG_T, ↓wGs_nil, ↓wGs_cons, ↓kIt_L, ↓kIt_T, ↓wI_seq, ↓kG1_i, ↓wI_rg1, ↓kG2_i, ↓wI_rg2, ↓wS_for, ↓wS_while, ↓kAz_fz, ↓wS_asg, ↓kL_nx, ↓kL_bk, ↓kL_rt, ↓wE_comp, ↓wU_nil, ↓wU_io, ↓wU_val, ↓kFn_fz, ↓kFn_fr, ↓kFn_nx, ↓wM_append, ↓wM_pop, ↓wM_rev, ↓wM_ins, ↓wM_popAt, ↓kMt_own, ↓kMt_io, ↓wE_mut, ↓wE_mut0, ↓kSi_i, ↓kSo_fz, ↓wS_store, ↓wE_meth, ↓w_addLL, ↓w_addTT, ↓w_mulLI, ↓w_mulTI, ↓w_inTI, ↓w_inLI, ↓w_inTN, ↓w_inLN, ↓w_sumTI, ↓w_sumLI, ↓w_sumTN, ↓w_sumLN, ↓w_cntTI, ↓w_cntTN, ↓w_cntLI, ↓w_cntLN, ↓kTR1_i, ↓kLR1_i, ↓wE_tupRg1, ↓wE_listRg1, ↓kTR2b_i, ↓kTR2_i, ↓kLR2b_i, ↓kLR2_i, ↓w_isN_none, ↓w_isN_bool, ↓w_isN_int, ↓w_isN_str, ↓w_isN_tuple, ↓w_notN_none, ↓w_notN_bool, ↓w_notN_int, ↓w_notN_str, ↓w_notN_tuple, ↓w_eqb, ↓w_eqLN, ↓w_neLN, ↓w_eqTN, ↓w_neTN, ↓w_neb, ↓w_isB, ↓w_notB, ↓w_revL, ↓w_iadd, ↓kW_oz, ↓kPar_2, ↓wS_par, ↓kCh2_b, ↓kCh_fz, ↓wE_chain, ↓w_gcd, ↓kSS_fz, ↓wE_sortSet, ↓w_sortSetI, ↓w_sortSetN, ↓wX_no, ↓kOI_i, ↓wX_yes, ↓wE_sl, ↓w_slT, ↓w_slL, ↓ats0, ↓ats1, ↓ats2, ↓ats3, ↓w_eqOI, ↓w_neOI, ↓w_eqOO, ↓w_isOI, ↓w_notOI, ↓w_revTL, ↓w_revTT, ↓kAuZ_fz, ↓kAuS_i, ↓wS_augS, ↓kEx_fr, ↓kEx_bw, ↓wS_ext, ↓kOn_fz, ↓wE_onFz, ↓w_ss2T, ↓w_ss2L, ↓w_ss2TN, ↓w_ss2LN, ↓w_lsT, ↓w_lsL, ↓w_srtI, ↓w_srtN, ↓w_srtTI, ↓w_srtTN, ↓w_srtP, ↓kG3_i, ↓wI_rg3, ↓wE_comp2, pl_1, pl_2, wipe_1, wipe_2, unw_1, unw_2, List.getD_cons_zero, List.getD_cons_succ, List.set_cons_zero, List.set_cons_succ, List.cons_append, List.nil_append, List.replicate_succ, List.replicate_zero, Nat.reduceSub, Nat.reduceAdd, Nat.reduceLT, plain_no, plain_val, plain_ov, Int.natCast_zero, Int.ofNat_zero, Int.cast_ofNat_Int, decide_eq_true_eq, decide_eq_false_iff_not, Bool.not_eq_true', Bool.not_eq_false', Bool.not_true, Bool.not_false, if_true, if_false, true_and, and_true, forall_const, decide_true, decide_false, Int.toNat_natCast, Int.reduceEq, Int.reduceNe, Int.reduceLT, Int.reduceLE, Int.zero_add, implies_true, true_implies, not_true_eq_false, not_false_eq_true, false_implies, false_and, and_false, reduceCtorEq, ite_true, ite_false, eq_self, List.length_cons, List.length_nil, oz_own, oz_val, pl_3, pl_4, wipe_3, wipe_4, unw_3, unw_4, B__law_are_chances_right_2, none_eq (c * m : Nat) m k (by omega) (by omega) (by omega) hci, B__law_are_chances_right_3, hr0, B__law_are_chances_right_4, is_less_eq hrz hnz (by decide : 600 + 800 ≤ 900000), w_eqF]
  have hnl := Rat.not_lt.mpr hle
  have hes : decide (foundQ ((c * m : Nat) : Int) (m : Int) (k : Int) 0 = rightQ k c 0) = decide ((k : Int) < 2) := decide_eq_decide.mpr (heq.trans (by omega))
  refine ⟨fun h => absurd hnl h, fun _ => ⟨fun h => by rw [hes] at h; simp at h, fun _ => ?_⟩⟩
  have hev : foundQ ((c * m : Nat) : Int) (m : Int) (k : Int) (k : Int) = Rat.divInt ((chl m k : Nat) : Int) ((chl (c * m) k : Nat) : Int) := by
    unfold foundQ
    rw [show (k : Int) - (k : Int) = ((0 : Nat) : Int) by omega, show ((c * m : Nat) : Int) - (m : Int) = ((c * m - m : Nat) : Int) by omega, chI_nat, chI_nat, chI_nat, show chl (c * m - m) 0 = 1 from rfl, Nat.mul_one]
  have hrk : rightQ k c k = Rat.divInt ((1 : Nat) : Int) ((c ^ k : Nat) : Int) := by
    unfold rightQ
    rw [g1, Nat.sub_self, Nat.pow_zero]
  have hez := found_sz (n := (c * m : Nat)) (b := m) (k := k) (f := k) (by omega) (by omega) (by omega) hci
  have hkz := right_sz (n := k) (c := c) (k := k) (Nat.le_refl _) (by omega) (by omega) (by omega)
  have hle2 : ¬ rightQ k c k < foundQ ((c * m : Nat) : Int) (m : Int) (k : Int) (k : Int) := by
    rw [Rat.not_lt, hev, hrk, dle_iff f1 hck]; omega
  have heq2 : k < 2 → foundQ ((c * m : Nat) : Int) (m : Int) (k : Int) (k : Int) = rightQ k c k := fun h => by
    rw [hev, hrk, deq_iff f1 hck]
    have := f5 h; omega
  have end8 : wS B__law_are_chances_right_8 [.val (.int (c * m : Nat)), .val (.int c), .val (.int k), .val (.int m), .val (fr (foundQ (c * m : Nat) m k 0)), .val (fr (rightQ k c 0)), .val (fr (foundQ (c * m : Nat) m k k))] (kFn [.val (.int (c * m : Nat)), .val (.int c), .val (.int k)] fun b => b = (.fz (.bool true), [])) := by
    obtain ⟨n1, _⟩ := okG_fin hc hc6 hcm
    obtain ⟨n2, _⟩ := okG_fin hc hc6 (show m ≤ 48 by omega)
    obtain ⟨n3, _⟩ := okG_fin hc hc6 (show c * m - m ≤ 48 by omega)
    have ci2 : 0 < chI ((c * m : Nat) : Int) ((c * m : Nat) : Int) := by rw [chI_nat, n1]; decide
    have q1 : foundQ ((c * m : Nat) : Int) (m : Int) ((c * m : Nat) : Int) (m : Int) = ((1 : Int) : Rat) := by
      unfold foundQ
      rw [show ((c * m : Nat) : Int) - (m : Int) = ((c * m - m : Nat) : Int) by omega, chI_nat, chI_nat, chI_nat, n1, n2, n3]; rfl
    have q2 : foundQ ((c * m : Nat) : Int) (m : Int) (k : Int) ((m : Int) + 1) = ((0 : Int) : Rat) := by
      unfold foundQ
      rw [show (m : Int) + 1 = ((m + 1 : Nat) : Int) by omega, chI_nat, chl_zero (show m < m + 1 by omega), Nat.zero_mul]
      show Rat.divInt 0 _ = _
      rw [Rat.zero_divInt]; rfl
    unfold B__law_are_chances_right_8
    simp only [↓wO_some, ↓wO_none, ↓wSl_0, ↓wSl_s, ↓wP_0, ↓wP_s, ↓kW_no, ↓kW_val, ↓kW_own, ↓kW_ov, ↓wO_setSlot, ↓wE_C, ↓kB_val, ↓kB_own, ↓kB_io, ↓wE_B, ↓kV_val, ↓kV_own, ↓wE_V, ↓kM_val, ↓kM_own, ↓wE_M, ↓kF_fz, ↓kF_bw, ↓kF_fr, ↓wE_F, ↓wR_fz, ↓kCt_val, ↓kCt_own, ↓kCt_io, ↓wR_bw, ↓wE_bin, ↓wE_un, ↓wA_nil, ↓kA_fz, ↓kA_bw, ↓kA_fr, ↓wA_cons, ↓wRs_nil, ↓wRs_cons, ↓wE_args, ↓wZ_nil, ↓wZ_cons, ↓kSz_0, ↓kSz_1, ↓kSz_2, ↓kSz_3, ↓kSz_4, ↓kSz_5, ↓kSz_6, ↓kSz_7, ↓kSz_8, ↓wE_tup, ↓wE_lst, ↓kT_bool, ↓wT_tst, ↓wT_and, ↓wT_or, ↓wT_not, ↓wT_yes, ↓wE_bool, ↓wE_if, ↓kAs_val, ↓kAs_own, ↓kAs_io, ↓wAs_nil, ↓wAs_fz, ↓wAs_bw, ↓kOut_nil, ↓kOut_nilr, ↓kPut_own, ↓kPut_io, ↓kOut_one, ↓kOut_oner, ↓wE_call, ↓w_add, ↓w_sub, ↓w_mul, ↓w_mulI, ↓w_fdiv, ↓w_mod, ↓w_neg, ↓w_lt, ↓w_le, ↓w_gt, ↓w_ge, ↓w_eq, ↓w_ne, ↓w_abs, ↓w_min2, ↓w_max2, ↓w_int, ↓w_intb, ↓w_pow, ↓w_lenL, ↓w_lenT, ↓w_ixL, ↓w_ixT, ↓w_tupL, ↓w_tupT, ↓w_listL, ↓w_listT, ↓kS_nx, ↓kS_bk, ↓kS_rt, ↓wS_nx, ↓wS_bk, ↓wS_seq, ↓kSt_fz, ↓kSt_fr, ↓wS_set, ↓kR_fz, ↓kR_fr, ↓wS_ret, ↓wS_retN, ↓wS_drop, ↓wS_if, ↓kAg_val, ↓wS_aug, ↓wG_N, ↓wG_T, ↓wGs_nil, ↓wGs_cons, ↓kIt_L, ↓kIt_T, ↓wI_seq, ↓kG1_i, ↓wI_rg1, ↓kG2_i, ↓wI_rg2, ↓wS_for, ↓wS_while, ↓kAz_fz, ↓wS_asg, ↓kL_nx, ↓kL_bk, ↓kL_rt, ↓wE_comp, ↓wU_nil, ↓wU_io, ↓wU_val, ↓kFn_fz, ↓kFn_fr, ↓kFn_nx, ↓wM_append, ↓wM_pop, ↓wM_rev, ↓wM_ins, ↓wM_popAt, ↓kMt_own, ↓kMt_io, ↓wE_mut, ↓wE_mut0, ↓kSi_i, ↓kSo_fz, ↓wS_store, ↓wE_meth, ↓w_addLL, ↓w_addTT, ↓w_mulLI, ↓w_mulTI, ↓w_inTI, ↓w_inLI, ↓w_inTN, ↓w_inLN, ↓w_sumTI, ↓w_sumLI, ↓w_sumTN, ↓w_sumLN, ↓w_cntTI, ↓w_cntTN, ↓w_cntLI, ↓w_cntLN, ↓kTR1_i, ↓kLR1_i, ↓wE_tupRg1, ↓wE_listRg1, ↓kTR2b_i, ↓kTR2_i, ↓kLR2b_i, ↓kLR2_i, ↓w_isN_none, ↓w_isN_bool, ↓w_isN_int, ↓w_isN_str, ↓w_isN_tuple, ↓w_notN_none, ↓w_notN_bool, ↓w_notN_int, ↓w_notN_str, ↓w_notN_tuple, ↓w_eqb, ↓w_eqLN, ↓w_neLN, ↓w_eqTN, ↓w_neTN, ↓w_neb, ↓w_isB, ↓w_notB, ↓w_revL, ↓w_iadd, ↓kW_oz, ↓kPar_2, ↓wS_par, ↓kCh2_b, ↓kCh_fz, ↓wE_chain, ↓w_gcd, ↓kSS_fz, ↓wE_sortSet, ↓w_sortSetI, ↓w_sortSetN, ↓wX_no, ↓kOI_i, ↓wX_yes, ↓wE_sl, ↓w_slT, ↓w_slL, ↓ats0, ↓ats1, ↓ats2, ↓ats3, ↓w_eqOI, ↓w_neOI, ↓w_eqOO, ↓w_isOI, ↓w_notOI, ↓w_revTL, ↓w_revTT, ↓kAuZ_fz, ↓kAuS_i, ↓wS_augS, ↓kEx_fr, ↓kEx_bw, ↓wS_ext, ↓kOn_fz, ↓wE_onFz, ↓w_ss2T, ↓w_ss2L, ↓w_ss2TN, ↓w_ss2LN, ↓w_lsT, ↓w_lsL, ↓w_srtI, ↓w_srtN, ↓w_srtTI, ↓w_srtTN, ↓w_srtP, ↓kG3_i, ↓wI_rg3, ↓wE_comp2, pl_1, pl_2, wipe_1, wipe_2, unw_1, unw_2, List.getD_cons_zero, List.getD_cons_succ, List.set_cons_zero, List.set_cons_succ, List.cons_append, List.nil_append, List.replicate_succ, List.replicate_zero, Nat.reduceSub, Nat.reduceAdd, Nat.reduceLT, plain_no, plain_val, plain_ov, Int.natCast_zero, Int.ofNat_zero, Int.cast_ofNat_Int, decide_eq_true_eq, decide_eq_false_iff_not, Bool.not_eq_true', Bool.not_eq_false', Bool.not_true, Bool.not_false, if_true, if_false, true_and, and_true, forall_const, decide_true, decide_false, Int.toNat_natCast, Int.reduceEq, Int.reduceNe, Int.reduceLT, Int.reduceLE, Int.zero_add, implies_true, true_implies, not_true_eq_false, not_false_eq_true, false_implies, false_and, and_false, reduceCtorEq, ite_true, ite_false, eq_self, List.length_cons, List.length_nil, oz_own, oz_val, pl_3, pl_4, wipe_3, wipe_4, unw_3, unw_4, found_eq (c * m : Nat) m (c * m : Nat) m (by omega) (by omega) (by omega) ci2, found_eq (c * m : Nat) m k (m + 1) (by omega) (by omega) (by omega) hci, q1, q2, fr_int]
    refine sameB_spec rfl (Pl.ints (l := [1, 1]) (by decide)) ?_
    simp only [↓wO_some, ↓wO_none, ↓wSl_0, ↓wSl_s, ↓wP_0, ↓wP_s, ↓kW_no, ↓kW_val, ↓kW_own, ↓kW_ov, ↓wO_setSlot, ↓wE_C, ↓kB_val, ↓kB_own, ↓kB_io, ↓wE_B, ↓kV_val, ↓kV_own, ↓wE_V, ↓kM_val, ↓kM_own, ↓wE_M, ↓kF_fz, ↓kF_bw, ↓kF_fr, ↓wE_F, ↓wR_fz, ↓kCt_val, ↓kCt_own, ↓kCt_io, ↓wR_bw, ↓wE_bin, ↓wE_un, ↓wA_nil, ↓kA_fz, ↓kA_bw, ↓kA_fr, ↓wA_cons, ↓wRs_nil, ↓wRs_cons, ↓wE_args, ↓wZ_nil, ↓wZ_cons, ↓kSz_0, ↓kSz_1, ↓kSz_2, ↓kSz_3, ↓kSz_4, ↓kSz_5, ↓kSz_6, ↓kSz_7, ↓kSz_8, ↓wE_tup, ↓wE_lst, ↓kT_bool, ↓wT_tst, ↓wT_and, ↓wT_or, ↓wT_not, ↓wT_yes, ↓wE_bool, ↓wE_if, ↓kAs_val, ↓kAs_own, ↓kAs_io, ↓wAs_nil, ↓wAs_fz, ↓wAs_bw, ↓kOut_nil, ↓kOut_nilr, ↓kPut_own, ↓kPut_io, ↓kOut_one, ↓kOut_oner, ↓wE_call, ↓w_add, ↓w_sub, ↓w_mul, ↓w_mulI, ↓w_fdiv, ↓w_mod, ↓w_neg, ↓w_lt, ↓w_le, ↓w_gt, ↓w_ge, ↓w_eq, ↓w_ne, ↓w_abs, ↓w_min2, ↓w_max2, ↓w_int, ↓w_intb, ↓w_pow, ↓w_lenL, ↓w_lenT, ↓w_ixL, ↓w_ixT, ↓w_tupL, ↓w_tupT, ↓w_listL, ↓w_listT, ↓kS_nx, ↓kS_bk, ↓kS_rt, ↓wS_nx, ↓wS_bk, ↓wS_seq, ↓kSt_fz, ↓kSt_fr, ↓wS_set, ↓kR_fz, ↓kR_fr, ↓wS_ret, ↓wS_retN, ↓wS_drop, ↓wS_if, ↓kAg_val, ↓wS_aug, ↓wG_N, ↓wG_T, ↓wGs_nil, ↓wGs_cons, ↓kIt_L, ↓kIt_T, ↓wI_seq, ↓kG1_i, ↓wI_rg1, ↓kG2_i, ↓wI_rg2, ↓wS_for, ↓wS_while, ↓kAz_fz, ↓wS_asg, ↓kL_nx, ↓kL_bk, ↓kL_rt, ↓wE_comp, ↓wU_nil, ↓wU_io, ↓wU_val, ↓kFn_fz, ↓kFn_fr, ↓kFn_nx, ↓wM_append, ↓wM_pop, ↓wM_rev, ↓wM_ins, ↓wM_popAt, ↓kMt_own, ↓kMt_io, ↓wE_mut, ↓wE_mut0, ↓kSi_i, ↓kSo_fz, ↓wS_store, ↓wE_meth, ↓w_addLL, ↓w_addTT, ↓w_mulLI, ↓w_mulTI, ↓w_inTI, ↓w_inLI, ↓w_inTN, ↓w_inLN, ↓w_sumTI, ↓w_sumLI, ↓w_sumTN, ↓w_sumLN, ↓w_cntTI, ↓w_cntTN, ↓w_cntLI, ↓w_cntLN, ↓kTR1_i, ↓kLR1_i, ↓wE_tupRg1, ↓wE_listRg1, ↓kTR2b_i, ↓kTR2_i, ↓kLR2b_i, ↓kLR2_i, ↓w_isN_none, ↓w_isN_bool, ↓w_isN_int, ↓w_isN_str, ↓w_isN_tuple, ↓w_notN_none, ↓w_notN_bool, ↓w_notN_int, ↓w_notN_str, ↓w_notN_tuple, ↓w_eqb, ↓w_eqLN, ↓w_neLN, ↓w_eqTN, ↓w_neTN, ↓w_neb, ↓w_isB, ↓w_notB, ↓w_revL, ↓w_iadd, ↓kW_oz, ↓kPar_2, ↓wS_par, ↓kCh2_b, ↓kCh_fz, ↓wE_chain, ↓w_gcd, ↓kSS_fz, ↓wE_sortSet, ↓w_sortSetI, ↓w_sortSetN, ↓wX_no, ↓kOI_i, ↓wX_yes, ↓wE_sl, ↓w_slT, ↓w_slL, ↓ats0, ↓ats1, ↓ats2, ↓ats3, ↓w_eqOI, ↓w_neOI, ↓w_eqOO, ↓w_isOI, ↓w_notOI, ↓w_revTL, ↓w_revTT, ↓kAuZ_fz, ↓kAuS_i, ↓wS_augS, ↓kEx_fr, ↓kEx_bw, ↓wS_ext, ↓kOn_fz, ↓wE_onFz, ↓w_ss2T, ↓w_ss2L, ↓w_ss2TN, ↓w_ss2LN, ↓w_lsT, ↓w_lsL, ↓w_srtI, ↓w_srtN, ↓w_srtTI, ↓w_srtTN, ↓w_srtP, ↓kG3_i, ↓wI_rg3, ↓wE_comp2, pl_1, pl_2, wipe_1, wipe_2, unw_1, unw_2, List.getD_cons_zero, List.getD_cons_succ, List.set_cons_zero, List.set_cons_succ, List.cons_append, List.nil_append, List.replicate_succ, List.replicate_zero, Nat.reduceSub, Nat.reduceAdd, Nat.reduceLT, plain_no, plain_val, plain_ov, Int.natCast_zero, Int.ofNat_zero, Int.cast_ofNat_Int, decide_eq_true_eq, decide_eq_false_iff_not, Bool.not_eq_true', Bool.not_eq_false', Bool.not_true, Bool.not_false, if_true, if_false, true_and, and_true, forall_const, decide_true, decide_false, Int.toNat_natCast, Int.reduceEq, Int.reduceNe, Int.reduceLT, Int.reduceLE, Int.zero_add, implies_true, true_implies, not_true_eq_false, not_false_eq_true, false_implies, false_and, and_false, reduceCtorEq, ite_true, ite_false, eq_self, List.length_cons, List.length_nil, oz_own, oz_val, pl_3, pl_4, wipe_3, wipe_4, unw_3, unw_4, found_eq (c * m : Nat) m (c * m : Nat) m (by omega) (by omega) (by omega) ci2, found_eq (c * m : Nat) m k (m + 1) (by omega) (by omega) (by omega) hci, q1, q2, fr_int]
    refine sameB_spec rfl (Pl.ints (l := [0, 1]) (by decide)) ?_
    simp only [↓wO_some, ↓wO_none, ↓wSl_0, ↓wSl_s, ↓wP_0, ↓wP_s, ↓kW_no, ↓kW_val, ↓kW_own, ↓kW_ov, ↓wO_setSlot, ↓wE_C, ↓kB_val, ↓kB_own, ↓kB_io, ↓wE_B, ↓kV_val, ↓kV_own, ↓wE_V, ↓kM_val, ↓kM_own, ↓wE_M, ↓kF_fz, ↓kF_bw, ↓kF_fr, ↓wE_F, ↓wR_fz, ↓kCt_val, ↓kCt_own, ↓kCt_io, ↓wR_bw, ↓wE_bin, ↓wE_un, ↓wA_nil, ↓kA_fz, ↓kA_bw, ↓kA_fr, ↓wA_cons, ↓wRs_nil, ↓wRs_cons, ↓wE_args, ↓wZ_nil, ↓wZ_cons, ↓kSz_0, ↓kSz_1, ↓kSz_2, ↓kSz_3, ↓kSz_4, ↓kSz_5, ↓kSz_6, ↓kSz_7, ↓kSz_8, ↓wE_tup, ↓wE_lst, ↓kT_bool, ↓wT_tst, ↓wT_and, ↓wT_or, ↓wT_not, ↓wT_yes, ↓wE_bool, ↓wE_if, ↓kAs_val, ↓kAs_own, ↓kAs_io, ↓wAs_nil, ↓wAs_fz, ↓wAs_bw, ↓kOut_nil, ↓kOut_nilr, ↓kPut_own, ↓kPut_io, ↓kOut_one, ↓kOut_oner, ↓wE_call, ↓w_add, ↓w_sub, ↓w_mul, ↓w_mulI, ↓w_fdiv, ↓w_mod, ↓w_neg, ↓w_lt, ↓w_le, ↓w_gt, ↓w_ge, ↓w_eq, ↓w_ne, ↓w_abs, ↓w_min2, ↓w_max2, ↓w_int, ↓w_intb, ↓w_pow, ↓w_lenL, ↓w_lenT, ↓w_ixL, ↓w_ixT, ↓w_tupL, ↓w_tupT, ↓w_listL, ↓w_listT, ↓kS_nx, ↓kS_bk, ↓kS_rt, ↓wS_nx, ↓wS_bk, ↓wS_seq, ↓kSt_fz, ↓kSt_fr, ↓wS_set, ↓kR_fz, ↓kR_fr, ↓wS_ret, ↓wS_retN, ↓wS_drop, ↓wS_if, ↓kAg_val, ↓wS_aug, ↓wG_N, ↓wG_T, ↓wGs_nil, ↓wGs_cons, ↓kIt_L, ↓kIt_T, ↓wI_seq, ↓kG1_i, ↓wI_rg1, ↓kG2_i, ↓wI_rg2, ↓wS_for, ↓wS_while, ↓kAz_fz, ↓wS_asg, ↓kL_nx, ↓kL_bk, ↓kL_rt, ↓wE_comp, ↓wU_nil, ↓wU_io, ↓wU_val, ↓kFn_fz, ↓kFn_fr, ↓kFn_nx, ↓wM_append, ↓wM_pop, ↓wM_rev, ↓wM_ins, ↓wM_popAt, ↓kMt_own, ↓kMt_io, ↓wE_mut, ↓wE_mut0, ↓kSi_i, ↓kSo_fz, ↓wS_store, ↓wE_meth, ↓w_addLL, ↓w_addTT, ↓w_mulLI, ↓w_mulTI, ↓w_inTI, ↓w_inLI, ↓w_inTN, ↓w_inLN, ↓w_sumTI, ↓w_sumLI, ↓w_sumTN, ↓w_sumLN, ↓w_cntTI, ↓w_cntTN, ↓w_cntLI, ↓w_cntLN, ↓kTR1_i, ↓kLR1_i, ↓wE_tupRg1, ↓wE_listRg1, ↓kTR2b_i, ↓kTR2_i, ↓kLR2b_i, ↓kLR2_i, ↓w_isN_none, ↓w_isN_bool, ↓w_isN_int, ↓w_isN_str, ↓w_isN_tuple, ↓w_notN_none, ↓w_notN_bool, ↓w_notN_int, ↓w_notN_str, ↓w_notN_tuple, ↓w_eqb, ↓w_eqLN, ↓w_neLN, ↓w_eqTN, ↓w_neTN, ↓w_neb, ↓w_isB, ↓w_notB, ↓w_revL, ↓w_iadd, ↓kW_oz, ↓kPar_2, ↓wS_par, ↓kCh2_b, ↓kCh_fz, ↓wE_chain, ↓w_gcd, ↓kSS_fz, ↓wE_sortSet, ↓w_sortSetI, ↓w_sortSetN, ↓wX_no, ↓kOI_i, ↓wX_yes, ↓wE_sl, ↓w_slT, ↓w_slL, ↓ats0, ↓ats1, ↓ats2, ↓ats3, ↓w_eqOI, ↓w_neOI, ↓w_eqOO, ↓w_isOI, ↓w_notOI, ↓w_revTL, ↓w_revTT, ↓kAuZ_fz, ↓kAuS_i, ↓wS_augS, ↓kEx_fr, ↓kEx_bw, ↓wS_ext, ↓kOn_fz, ↓wE_onFz, ↓w_ss2T, ↓w_ss2L, ↓w_ss2TN, ↓w_ss2LN, ↓w_lsT, ↓w_lsL, ↓w_srtI, ↓w_srtN, ↓w_srtTI, ↓w_srtTN, ↓w_srtP, ↓kG3_i, ↓wI_rg3, ↓wE_comp2, pl_1, pl_2, wipe_1, wipe_2, unw_1, unw_2, List.getD_cons_zero, List.getD_cons_succ, List.set_cons_zero, List.set_cons_succ, List.cons_append, List.nil_append, List.replicate_succ, List.replicate_zero, Nat.reduceSub, Nat.reduceAdd, Nat.reduceLT, plain_no, plain_val, plain_ov, Int.natCast_zero, Int.ofNat_zero, Int.cast_ofNat_Int, decide_eq_true_eq, decide_eq_false_iff_not, Bool.not_eq_true', Bool.not_eq_false', Bool.not_true, Bool.not_false, if_true, if_false, true_and, and_true, forall_const, decide_true, decide_false, Int.toNat_natCast, Int.reduceEq, Int.reduceNe, Int.reduceLT, Int.reduceLE, Int.zero_add, implies_true, true_implies, not_true_eq_false, not_false_eq_true, false_implies, false_and, and_false, reduceCtorEq, ite_true, ite_false, eq_self, List.length_cons, List.length_nil, oz_own, oz_val, pl_3, pl_4, wipe_3, wipe_4, unw_3, unw_4]
  have end7 : wS B__law_are_chances_right_7 [.val (.int (c * m : Nat)), .val (.int c), .val (.int k), .val (.int m), .val (fr (foundQ (c * m : Nat) m k 0)), .val (fr (rightQ k c 0)), .val (fr (foundQ (c * m : Nat) m k k))] (kFn [.val (.int (c * m : Nat)), .val (.int c), .val (.int k)] fun b => b = (.fz (.bool true), [])) := by
    have h11 : PyData.tuple [.int 1, .int 1] = fr ((1 : Int) : Rat) := (fr_int 1).symm
    have hmz : Sz ((1 : Int) : Rat) 1 := ⟨by decide, by decide⟩
    have hab : chl (c * m - m) k ≤ chl (c * m) k := by
      have h1 : (c - 1) ^ k ≤ c ^ k := Nat.pow_le_pow_left (by omega) k
      have h2 : chl (c * m - m) k * c ^ k ≤ chl (c * m) k * c ^ k := Nat.le_trans f2 (by rw [Nat.mul_comm (chl (c * m) k)]; exact Nat.mul_le_mul_right _ h1)
      exact Nat.le_of_mul_le_mul_right h2 hck
    have hsub : ((1 : Int) : Rat) - foundQ ((c * m : Nat) : Int) (m : Int) (k : Int) 0 = Rat.divInt ((chl (c * m) k - chl (c * m - m) k : Nat) : Int) ((chl (c * m) k : Nat) : Int) := by
      rw [none_nat c m k (by omega), show ((1 : Int) : Rat) = Rat.divInt 1 1 from rfl, Rat.divInt_sub_divInt _ _ (by decide) (by omega), Int.one_mul, Int.mul_one, Int.natCast_sub hab]
    have hb400 : chl (c * m) k < 2 ^ 400 := chl_lt (by omega) (by omega)
    have hz1 : Sz (((1 : Int) : Rat) - foundQ ((c * m : Nat) : Int) (m : Int) (k : Int) 0) 400 := by
      rw [hsub]
      exact Sz.divInt (nat_sz (Nat.lt_of_le_of_lt (Nat.sub_le ..) hb400)) (nat_sz hb400) (by omega)
    have hsx : Sx k c k < 2 ^ 200 := by
      have := pow_sz (a := c) (k := k) (by omega) (by omega)
      omega
    have hz2 : Sz (Rat.divInt ((Sx k c k : Nat) : Int) ((c ^ k : Nat) : Int)) 200 := Sz.divInt (nat_sz hsx) (nat_sz (pow_sz (by omega) (by omega))) (by omega)
    have hle3 : ¬ (((1 : Int) : Rat) - foundQ ((c * m : Nat) : Int) (m : Int) (k : Int) 0) < Rat.divInt ((Sx k c k : Nat) : Int) ((c ^ k : Nat) : Int) := by
      rw [Rat.not_lt, hsub, dle_iff hck f1]
      have e1 : Sx k c k * chl (c * m) k + (c - 1) ^ k * chl (c * m) k = c ^ k * chl (c * m) k := by rw [← Nat.add_mul, g2]
      have e2 : (chl (c * m) k - chl (c * m - m) k) * c ^ k + chl (c * m - m) k * c ^ k = chl (c * m) k * c ^ k := by rw [← Nat.add_mul, Nat.sub_add_cancel hab]
      have e3 := Nat.mul_comm (c ^ k) (chl (c * m) k)
      omega
    have hd : decide ((k : Int) > 0) = decide (0 < k) := decide_eq_decide.mpr (by omega)
    unfold B__law_are_chances_right_7
    by_cases h0 : 0 < k
    · have h0' : (k : Int) > 0 := by omega
      simp only [↓wO_some, ↓wO_none, ↓wSl_0, ↓wSl_s, ↓wP_0, ↓wP_s, ↓kW_no, ↓kW_val, ↓kW_own, ↓kW_ov, ↓wO_setSlot, ↓wE_C, ↓kB_val, ↓kB_own, ↓kB_io, ↓wE_B, ↓kV_val, ↓kV_own, ↓wE_V, ↓kM_val, ↓kM_own, ↓wE_M, ↓kF_fz, ↓kF_bw, ↓kF_fr, ↓wE_F, ↓wR_fz, ↓kCt_val, ↓kCt_own, ↓kCt_io, ↓wR_bw, ↓wE_bin, ↓wE_un, ↓wA_nil, ↓kA_fz, ↓kA_bw, ↓kA_fr, ↓wA_cons, ↓wRs_nil, ↓wRs_cons, ↓wE_args, ↓wZ_nil, ↓wZ_cons, ↓kSz_0, ↓kSz_1, ↓kSz_2, ↓kSz_3, ↓kSz_4, ↓kSz_5, ↓kSz_6, ↓kSz_7, ↓kSz_8, ↓wE_tup, ↓wE_lst, ↓kT_bool, ↓wT_tst, ↓wT_and, ↓wT_or, ↓wT_not, ↓wT_yes, ↓wE_bool, ↓wE_if, ↓kAs_val, ↓kAs_own, ↓kAs_io, ↓wAs_nil, ↓wAs_fz, ↓wAs_bw, ↓kOut_nil, ↓kOut_nilr, ↓kPut_own, ↓kPut_io, ↓kOut_one, ↓kOut_oner, ↓wE_call, ↓w_add, ↓w_sub, ↓w_mul, ↓w_mulI, ↓w_fdiv, ↓w_mod, ↓w_neg, ↓w_lt, ↓w_le, ↓w_gt, ↓w_ge, ↓w_eq, ↓w_ne, ↓w_abs, ↓w_min2, ↓w_max2, ↓w_int, ↓w_intb, ↓w_pow, ↓w_lenL, ↓w_lenT, ↓w_ixL, ↓w_ixT, ↓w_tupL, ↓w_tupT, ↓w_listL, ↓w_listT, ↓kS_nx, ↓kS_bk, ↓kS_rt, ↓wS_nx, ↓wS_bk, ↓wS_seq, ↓kSt_fz, ↓kSt_fr, ↓wS_set, ↓kR_fz, ↓kR_fr, ↓wS_ret, ↓wS_retN, ↓wS_drop, ↓wS_if, ↓kAg_val, ↓wS_aug, ↓wG_N, ↓wG_T, ↓wGs_nil, ↓wGs_cons, ↓kIt_L, ↓kIt_T, ↓wI_seq, ↓kG1_i, ↓wI_rg1, ↓kG2_i, ↓wI_rg2, ↓wS_for, ↓wS_while, ↓kAz_fz, ↓wS_asg, ↓kL_nx, ↓kL_bk, ↓kL_rt, ↓wE_comp, ↓wU_nil, ↓wU_io, ↓wU_val, ↓kFn_fz, ↓kFn_fr, ↓kFn_nx, ↓wM_append, ↓wM_pop, ↓wM_rev, ↓wM_ins, ↓wM_popAt, ↓kMt_own, ↓kMt_io, ↓wE_mut, ↓wE_mut0, ↓kSi_i, ↓kSo_fz, ↓wS_store, ↓wE_meth, ↓w_addLL, ↓w_addTT, ↓w_mulLI, ↓w_mulTI, ↓w_inTI, ↓w_inLI, ↓w_inTN, ↓w_inLN, ↓w_sumTI, ↓w_sumLI, ↓w_sumTN, ↓w_sumLN, ↓w_cntTI, ↓w_cntTN, ↓w_cntLI, ↓w_cntLN, ↓kTR1_i, ↓kLR1_i, ↓wE_tupRg1, ↓wE_listRg1, ↓kTR2b_i, ↓kTR2_i, ↓kLR2b_i, ↓kLR2_i, ↓w_isN_none, ↓w_isN_bool, ↓w_isN_int, ↓w_isN_str, ↓w_isN_tuple, ↓w_notN_none, ↓w_notN_bool, ↓w_notN_int, ↓w_notN_str, ↓w_notN_tuple, ↓w_eqb, ↓w_eqLN, ↓w_neLN, ↓w_eqTN, ↓w_neTN, ↓w_neb, ↓w_isB, ↓w_notB, ↓w_revL, ↓w_iadd, ↓kW_oz, ↓kPar_2, ↓wS_par, ↓kCh2_b, ↓kCh_fz, ↓wE_chain, ↓w_gcd, ↓kSS_fz, ↓wE_sortSet, ↓w_sortSetI, ↓w_sortSetN, ↓wX_no, ↓kOI_i, ↓wX_yes, ↓wE_sl, ↓w_slT, ↓w_slL, ↓ats0, ↓ats1, ↓ats2, ↓ats3, ↓w_eqOI, ↓w_neOI, ↓w_eqOO, ↓w_isOI, ↓w_notOI, ↓w_revTL, ↓w_revTT, ↓kAuZ_fz, ↓kAuS_i, ↓wS_augS, ↓kEx_fr, ↓kEx_bw, ↓wS_ext, ↓kOn_fz, ↓wE_onFz, ↓w_ss2T, ↓w_ss2L, ↓w_ss2TN, ↓w_ss2LN, ↓w_lsT, ↓w_lsL, ↓w_srtI, ↓w_srtN, ↓w_srtTI, ↓w_srtTN, ↓w_srtP, ↓kG3_i, ↓wI_rg3, ↓wE_comp2, pl_1, pl_2, wipe_1, wipe_2, unw_1, unw_2, List.getD_cons_zero, List.getD_cons_succ, List.set_cons_zero, List.set_cons_succ, List.cons_append, List.nil_append, List.replicate_succ, List.replicate_zero, Nat.reduceSub, Nat.reduceAdd, Nat.reduceLT, plain_no, plain_val, plain_ov, Int.natCast_zero, Int.ofNat_zero, Int.cast_ofNat_Int, decide_eq_true_eq, decide_eq_false_iff_not, Bool.not_eq_true', Bool.not_eq_false', Bool.not_true, Bool.not_false, if_true, if_false, true_and, and_true, forall_const, decide_true, decide_false, Int.toNat_natCast, Int.reduceEq, Int.reduceNe, Int.reduceLT, Int.reduceLE, Int.zero_add, implies_true, true_implies, not_true_eq_false, not_false_eq_true, false_implies, false_and, and_false, reduceCtorEq, ite_true, ite_false, eq_self, List.length_cons, List.length_nil, oz_own, oz_val, pl_3, pl_4, wipe_3, wipe_4, unw_3, unw_4, h0', h11, minus_eq hmz hnz (by decide : 1 + 800 ≤ 9000), pass_eq k c h0 (by omega) (by omega) (by omega), is_less_eq hz1 hz2 (by decide : 400 + 200 ≤ 900000)]
      exact ⟨fun h => absurd hle3 h, fun _ => end8⟩
    · have h0' : ¬ (k : Int) > 0 := by omega
      simp only [↓wO_some, ↓wO_none, ↓wSl_0, ↓wSl_s, ↓wP_0, ↓wP_s, ↓kW_no, ↓kW_val, ↓kW_own, ↓kW_ov, ↓wO_setSlot, ↓wE_C, ↓kB_val, ↓kB_own, ↓kB_io, ↓wE_B, ↓kV_val, ↓kV_own, ↓wE_V, ↓kM_val, ↓kM_own, ↓wE_M, ↓kF_fz, ↓kF_bw, ↓kF_fr, ↓wE_F, ↓wR_fz, ↓kCt_val, ↓kCt_own, ↓kCt_io, ↓wR_bw, ↓wE_bin, ↓wE_un, ↓wA_nil, ↓kA_fz, ↓kA_bw, ↓kA_fr, ↓wA_cons, ↓wRs_nil, ↓wRs_cons, ↓wE_args, ↓wZ_nil, ↓wZ_cons, ↓kSz_0, ↓kSz_1, ↓kSz_2, ↓kSz_3, ↓kSz_4, ↓kSz_5, ↓kSz_6, ↓kSz_7, ↓kSz_8, ↓wE_tup, ↓wE_lst, ↓kT_bool, ↓wT_tst, ↓wT_and, ↓wT_or, ↓wT_not, ↓wT_yes, ↓wE_bool, ↓wE_if, ↓kAs_val, ↓kAs_own, ↓kAs_io, ↓wAs_nil, ↓wAs_fz, ↓wAs_bw, ↓kOut_nil, ↓kOut_nilr, ↓kPut_own, ↓kPut_io, ↓kOut_one, ↓kOut_oner, ↓wE_call, ↓w_add, ↓w_sub, ↓w_mul, ↓w_mulI, ↓w_fdiv, ↓w_mod, ↓w_neg, ↓w_lt, ↓w_le, ↓w_gt, ↓w_ge, ↓w_eq, ↓w_ne, ↓w_abs, ↓w_min2, ↓w_max2, ↓w_int, ↓w_intb, ↓w_pow, ↓w_lenL, ↓w_lenT, ↓w_ixL, ↓w_ixT, ↓w_tupL, ↓w_tupT, ↓w_listL, ↓w_listT, ↓kS_nx, ↓kS_bk, ↓kS_rt, ↓wS_nx, ↓wS_bk, ↓wS_seq, ↓kSt_fz, ↓kSt_fr, ↓wS_set, ↓kR_fz, ↓kR_fr, ↓wS_ret, ↓wS_retN, ↓wS_drop, ↓wS_if, ↓kAg_val, ↓wS_aug, ↓wG_N, ↓wG_T, ↓wGs_nil, ↓wGs_cons, ↓kIt_L, ↓kIt_T, ↓wI_seq, ↓kG1_i, ↓wI_rg1, ↓kG2_i, ↓wI_rg2, ↓wS_for, ↓wS_while, ↓kAz_fz, ↓wS_asg, ↓kL_nx, ↓kL_bk, ↓kL_rt, ↓wE_comp, ↓wU_nil, ↓wU_io, ↓wU_val, ↓kFn_fz, ↓kFn_fr, ↓kFn_nx, ↓wM_append, ↓wM_pop, ↓wM_rev, ↓wM_ins, ↓wM_popAt, ↓kMt_own, ↓kMt_io, ↓wE_mut, ↓wE_mut0, ↓kSi_i, ↓kSo_fz, ↓wS_store, ↓wE_meth, ↓w_addLL, ↓w_addTT, ↓w_mulLI, ↓w_mulTI, ↓w_inTI, ↓w_inLI, ↓w_inTN, ↓w_inLN, ↓w_sumTI, ↓w_sumLI, ↓w_sumTN, ↓w_sumLN, ↓w_cntTI, ↓w_cntTN, ↓w_cntLI, ↓w_cntLN, ↓kTR1_i, ↓kLR1_i, ↓wE_tupRg1, ↓wE_listRg1, ↓kTR2b_i, ↓kTR2_i, ↓kLR2b_i, ↓kLR2_i, ↓w_isN_none, ↓w_isN_bool, ↓w_isN_int, ↓w_isN_str, ↓w_isN_tuple, ↓w_notN_none, ↓w_notN_bool, ↓w_notN_int, ↓w_notN_str, ↓w_notN_tuple, ↓w_eqb, ↓w_eqLN, ↓w_neLN, ↓w_eqTN, ↓w_neTN, ↓w_neb, ↓w_isB, ↓w_notB, ↓w_revL, ↓w_iadd, ↓kW_oz, ↓kPar_2, ↓wS_par, ↓kCh2_b, ↓kCh_fz, ↓wE_chain, ↓w_gcd, ↓kSS_fz, ↓wE_sortSet, ↓w_sortSetI, ↓w_sortSetN, ↓wX_no, ↓kOI_i, ↓wX_yes, ↓wE_sl, ↓w_slT, ↓w_slL, ↓ats0, ↓ats1, ↓ats2, ↓ats3, ↓w_eqOI, ↓w_neOI, ↓w_eqOO, ↓w_isOI, ↓w_notOI, ↓w_revTL, ↓w_revTT, ↓kAuZ_fz, ↓kAuS_i, ↓wS_augS, ↓kEx_fr, ↓kEx_bw, ↓wS_ext, ↓kOn_fz, ↓wE_onFz, ↓w_ss2T, ↓w_ss2L, ↓w_ss2TN, ↓w_ss2LN, ↓w_lsT, ↓w_lsL, ↓w_srtI, ↓w_srtN, ↓w_srtTI, ↓w_srtTN, ↓w_srtP, ↓kG3_i, ↓wI_rg3, ↓wE_comp2, pl_1, pl_2, wipe_1, wipe_2, unw_1, unw_2, List.getD_cons_zero, List.getD_cons_succ, List.set_cons_zero, List.set_cons_succ, List.cons_append, List.nil_append, List.replicate_succ, List.replicate_zero, Nat.reduceSub, Nat.reduceAdd, Nat.reduceLT, plain_no, plain_val, plain_ov, Int.natCast_zero, Int.ofNat_zero, Int.cast_ofNat_Int, decide_eq_true_eq, decide_eq_false_iff_not, Bool.not_eq_true', Bool.not_eq_false', Bool.not_true, Bool.not_false, if_true, if_false, true_and, and_true, forall_const, decide_true, decide_false, Int.toNat_natCast, Int.reduceEq, Int.reduceNe, Int.reduceLT, Int.reduceLE, Int.zero_add, implies_true, true_implies, not_true_eq_false, not_false_eq_true, false_implies, false_and, and_false, reduceCtorEq, ite_true, ite_false, eq_self, List.length_cons, List.length_nil, oz_own, oz_val, pl_3, pl_4, wipe_3, wipe_4, unw_3, unw_4, h0', h11]
      exact end8
  unfold B__law_are_chances_right_5
  simp only [↓wO_some, ↓wO_none, ↓wSl_0, ↓wSl_s, ↓wP_0, ↓wP_s, ↓kW_no, ↓kW_val, ↓kW_own, ↓kW_ov, ↓wO_setSlot, ↓wE_C, ↓kB_val, ↓kB_own, ↓kB_io, ↓wE_B, ↓kV_val, ↓kV_own, ↓wE_V, ↓kM_val, ↓kM_own, ↓wE_M, ↓kF_fz, ↓kF_bw, ↓kF_fr, ↓wE_F, ↓wR_fz, ↓kCt_val, ↓kCt_own, ↓kCt_io, ↓wR_bw, ↓wE_bin, ↓wE_un, ↓wA_nil, ↓kA_fz, ↓kA_bw, ↓kA_fr, ↓wA_cons, ↓wRs_nil, ↓wRs_cons, ↓wE_args, ↓wZ_nil, ↓wZ_cons, ↓kSz_0, ↓kSz_1, ↓kSz_2, ↓kSz_3, ↓kSz_4, ↓kSz_5, ↓kSz_6, ↓kSz_7, ↓kSz_8, ↓wE_tup, ↓wE_lst, ↓kT_bool, ↓wT_tst, ↓wT_and, ↓wT_or, ↓wT_not, ↓wT_yes, ↓wE_bool, ↓wE_if, ↓kAs_val, ↓kAs_own, ↓kAs_io, ↓wAs_nil, ↓wAs_fz, ↓wAs_bw, ↓kOut_nil, ↓kOut_nilr, ↓kPut_own, ↓kPut_io, ↓kOut_one, ↓kOut_oner, ↓wE_call, ↓w_add, ↓w_sub, ↓w_mul, ↓w_mulI, ↓w_fdiv, ↓w_mod, ↓w_neg, ↓w_lt, ↓w_le, ↓w_gt, ↓w_ge, ↓w_eq, ↓w_ne, ↓w_abs, ↓w_min2, ↓w_max2, ↓w_int, ↓w_intb, ↓w_pow, ↓w_lenL, ↓w_lenT, ↓w_ixL, ↓w_ixT, ↓w_tupL, ↓w_tupT, ↓w_listL, ↓w_listT, ↓kS_nx, ↓kS_bk, ↓kS_rt, ↓wS_nx, ↓wS_bk, ↓wS_seq, ↓kSt_fz, ↓kSt_fr, ↓wS_set, ↓kR_fz, ↓kR_fr, ↓wS_ret, ↓wS_retN, ↓wS_drop, ↓wS_if, ↓kAg_val, ↓wS_aug, ↓wG_N, ↓wG_T, ↓wGs_nil, ↓wGs_cons, ↓kIt_L, ↓kIt_T, ↓wI_seq, ↓kG1_i, ↓wI_rg1, ↓kG2_i, ↓wI_rg2, ↓wS_for, ↓wS_while, ↓kAz_fz, ↓wS_asg, ↓kL_nx, ↓kL_bk, ↓kL_rt, ↓wE_comp, ↓wU_nil, ↓wU_io, ↓wU_val, ↓kFn_fz, ↓kFn_fr, ↓kFn_nx, ↓wM_append, ↓wM_pop, ↓wM_rev, ↓wM_ins, ↓wM_popAt, ↓kMt_own, ↓kMt_io, ↓wE_mut, ↓wE_mut0, ↓kSi_i, ↓kSo_fz, ↓wS_store, ↓wE_meth, ↓w_addLL, ↓w_addTT, ↓w_mulLI, ↓w_mulTI, ↓w_inTI, ↓w_inLI, ↓w_inTN, ↓w_inLN, ↓w_sumTI, ↓w_sumLI, ↓w_sumTN, ↓w_sumLN, ↓w_cntTI, ↓w_cntTN, ↓w_cntLI, ↓w_cntLN, ↓kTR1_i, ↓kLR1_i, ↓wE_tupRg1, ↓wE_listRg1, ↓kTR2b_i, ↓kTR2_i, ↓kLR2b_i, ↓kLR2_i, ↓w_isN_none, ↓w_isN_bool, ↓w_isN_int, ↓w_isN_str, ↓w_isN_tuple, ↓w_notN_none, ↓w_notN_bool, ↓w_notN_int, ↓w_notN_str, ↓w_notN_tuple, ↓w_eqb, ↓w_eqLN, ↓w_neLN, ↓w_eqTN, ↓w_neTN, ↓w_neb, ↓w_isB, ↓w_notB, ↓w_revL, ↓w_iadd, ↓kW_oz, ↓kPar_2, ↓wS_par, ↓kCh2_b, ↓kCh_fz, ↓wE_chain, ↓w_gcd, ↓kSS_fz, ↓wE_sortSet, ↓w_sortSetI, ↓w_sortSetN, ↓wX_no, ↓kOI_i, ↓wX_yes, ↓wE_sl, ↓w_slT, ↓w_slL, ↓ats0, ↓ats1, ↓ats2, ↓ats3, ↓w_eqOI, ↓w_neOI, ↓w_eqOO, ↓w_isOI, ↓w_notOI, ↓w_revTL, ↓w_revTT, ↓kAuZ_fz, ↓kAuS_i, ↓wS_augS, ↓kEx_fr, ↓kEx_bw, ↓wS_ext, ↓kOn_fz, ↓wE_onFz, ↓w_ss2T, ↓w_ss2L, ↓w_ss2TN, ↓w_ss2LN, ↓w_lsT, ↓w_lsL, ↓w_srtI, ↓w_srtN, ↓w_srtTI, ↓w_srtTN, ↓w_srtP, ↓kG3_i, ↓wI_rg3, ↓wE_comp2, pl_1, pl_2, wipe_1, wipe_2, unw_1, unw_2, List.getD_cons_zero, List.getD_cons_succ, List.set_cons_zero, List.set_cons_succ, List.cons_append, List.nil_append, List.replicate_succ, List.replicate_zero, Nat.reduceSub, Nat.reduceAdd, Nat.reduceLT, plain_no, plain_val, plain_ov, Int.natCast_zero, Int.ofNat_zero, Int.cast_ofNat_Int, decide_eq_true_eq, decide_eq_false_iff_not, Bool.not_eq_true', Bool.not_eq_false', Bool.not_true, Bool.not_false, if_true, if_false, true_and, and_true, forall_const, decide_true, decide_false, Int.toNat_natCast, Int.reduceEq, Int.reduceNe, Int.reduceLT, Int.reduceLE, Int.zero_add, implies_true, true_implies, not_true_eq_false, not_false_eq_true, false_implies, false_and, and_false, reduceCtorEq, ite_true, ite_false, eq_self, List.length_cons, List.length_nil, oz_own, oz_val, pl_3, pl_4, wipe_3, wipe_4, unw_3, unw_4, found_eq (c * m : Nat) m k k (by omega) (by omega) (by omega) hci, B__law_are_chances_right_6, right_eq k c k (Nat.le_refl _) (by omega) (by omega) (by omega), is_less_eq hkz hez (by decide : 600 + 800 ≤ 900000), w_neF]
  exact ⟨fun h => absurd hle2 h, fun _ => ⟨fun h => ⟨fun h2 => absurd (heq2 (by omega)) h2, fun _ => end7⟩, fun _ => end7⟩⟩
theorem range_head (p : Nat → Bool) {m j : Nat} (h : j < m) (h1 : p j = true) (h2 : ∀ i, i < j → p i = false) : ∃ r, (List.range m).filter p = j :: r := by
  obtain ⟨k, rfl⟩ : ∃ k, m = j + (k + 1) := ⟨m - j - 1, by omega⟩
  rw [List.range_add, List.filter_append, List.filter_eq_nil_iff.mpr fun i hi => by rw [h2 i (List.mem_range.mp hi)]; decide, List.nil_append, List.range_succ_eq_map, List.map_cons, Nat.add_zero, List.filter_cons_of_pos h1]
  exact ⟨_, rfl⟩
theorem fits_first {n b : Nat} {q : Rat} {k : Nat} (hk : k ≤ n) (h : foundQ n b k 0 ≤ q) : ∃ a r, fits n b q = a :: r ∧ a ≤ k ∧ foundQ n b a 0 ≤ q ∧ ∀ i, i < a → ¬ foundQ n b i 0 ≤ q := by
  unfold fits
  have h1 : ∃ a, a ≤ k ∧ foundQ n b (a : Nat) 0 ≤ q ∧ ∀ i : Nat, i < a → ¬ foundQ n b i 0 ≤ q := by
    clear hk
    induction k using Nat.strongRecOn with
    | _ k ih =>
      by_cases z : ∃ i : Nat, i < k ∧ foundQ n b i 0 ≤ q
      · obtain ⟨i, h1, h2⟩ := z
        obtain ⟨a, h3, h4⟩ := ih i h1 h2
        exact ⟨a, by omega, h4⟩
      · exact ⟨k, Nat.le_refl _, h, fun i hi hq => z ⟨i, hi, hq⟩⟩
  obtain ⟨a, ha, h2, h3⟩ := h1
  obtain ⟨r, hr⟩ := range_head (fun k : Nat => decide (foundQ n b k 0 ≤ q)) (show a < n + 1 by omega) (decide_eq_true h2) (fun i hi => decide_eq_false (h3 i hi))
  exact ⟨a, r, hr, ha, h2, h3⟩
theorem needed_right {l : Dr} (c m : Nat) (hc : 2 ≤ c) (hc6 : c ≤ 6) (hm : 1 ≤ m) (hcm : c * m ≤ 48) {Q : RV × List D → Prop} (h : ∀ l' : Dr, Q (.fz (.bool true), [l'.d])) : wO (F__law_are_needed_right [.io l.d, .val (.int (c * m : Nat)), .val (.int c)]) Q := by
  refine wO_fn rfl ?_
  unfold B__law_are_needed_right
  have hmn : m ≤ c * m := Nat.le_mul_of_pos_left m (by omega)
  have hdv : c * m / c = m := Nat.mul_div_cancel_left m (by omega)
  simp only [↓wO_some, ↓wO_none, ↓wSl_0, ↓wSl_s, ↓wP_0, ↓wP_s, ↓kW_no, ↓kW_val, ↓kW_own, ↓kW_ov, ↓wO_setSlot, ↓wE_C, ↓kB_val, ↓kB_own, ↓kB_io, ↓wE_B, ↓kV_val, ↓kV_own, ↓wE_V, ↓kM_val, ↓kM_own, ↓wE_M, ↓kF_fz, ↓kF_bw, ↓kF_fr, ↓wE_F, ↓wR_fz, ↓kCt_val, ↓kCt_own, ↓kCt_io, ↓wR_bw, ↓wE_bin, ↓wE_un, ↓wA_nil, ↓kA_fz, ↓kA_bw, ↓kA_fr, ↓wA_cons, ↓wRs_nil, ↓wRs_cons, ↓wE_args, ↓wZ_nil, ↓wZ_cons, ↓kSz_0, ↓kSz_1, ↓kSz_2, ↓kSz_3, ↓kSz_4, ↓kSz_5, ↓kSz_6, ↓kSz_7, ↓kSz_8, ↓wE_tup, ↓wE_lst, ↓kT_bool, ↓wT_tst, ↓wT_and, ↓wT_or, ↓wT_not, ↓wT_yes, ↓wE_bool, ↓wE_if, ↓kAs_val, ↓kAs_own, ↓kAs_io, ↓wAs_nil, ↓wAs_fz, ↓wAs_bw, ↓kOut_nil, ↓kOut_nilr, ↓kPut_own, ↓kPut_io, ↓kOut_one, ↓kOut_oner, ↓wE_call, ↓w_add, ↓w_sub, ↓w_mul, ↓w_mulI, ↓w_fdiv, ↓w_mod, ↓w_neg, ↓w_lt, ↓w_le, ↓w_gt, ↓w_ge, ↓w_eq, ↓w_ne, ↓w_abs, ↓w_min2, ↓w_max2, ↓w_int, ↓w_intb, ↓w_pow, ↓w_lenL, ↓w_lenT, ↓w_ixL, ↓w_ixT, ↓w_tupL, ↓w_tupT, ↓w_listL, ↓w_listT, ↓kS_nx, ↓kS_bk, ↓kS_rt, ↓wS_nx, ↓wS_bk, ↓wS_seq, ↓kSt_fz, ↓kSt_fr, ↓wS_set, ↓kR_fz, ↓kR_fr, ↓wS_ret, ↓wS_retN, ↓wS_drop, ↓wS_if, ↓kAg_val, ↓wS_aug, ↓wG_N, ↓wG_T, ↓wGs_nil, ↓wGs_cons, ↓kIt_L, ↓kIt_T, ↓wI_seq, ↓kG1_i, ↓wI_rg1, ↓kG2_i, ↓wI_rg2, ↓wS_for, ↓wS_while, ↓kAz_fz, ↓wS_asg, ↓kL_nx, ↓kL_bk, ↓kL_rt, ↓wE_comp, ↓wU_nil, ↓wU_io, ↓wU_val, ↓kFn_fz, ↓kFn_fr, ↓kFn_nx, ↓wM_append, ↓wM_pop, ↓wM_rev, ↓wM_ins, ↓wM_popAt, ↓kMt_own, ↓kMt_io, ↓wE_mut, ↓wE_mut0, ↓kSi_i, ↓kSo_fz, ↓wS_store, ↓wE_meth, ↓w_addLL, ↓w_addTT, ↓w_mulLI, ↓w_mulTI, ↓w_inTI, ↓w_inLI, ↓w_inTN, ↓w_inLN, ↓w_sumTI, ↓w_sumLI, ↓w_sumTN, ↓w_sumLN, ↓w_cntTI, ↓w_cntTN, ↓w_cntLI, ↓w_cntLN, ↓kTR1_i, ↓kLR1_i, ↓wE_tupRg1, ↓wE_listRg1, ↓kTR2b_i, ↓kTR2_i, ↓kLR2b_i, ↓kLR2_i, ↓w_isN_none, ↓w_isN_bool, ↓w_isN_int, ↓w_isN_str, ↓w_isN_tuple, ↓w_notN_none, ↓w_notN_bool, ↓w_notN_int, ↓w_notN_str, ↓w_notN_tuple, ↓w_eqb, ↓w_eqLN, ↓w_neLN, ↓w_eqTN, ↓w_neTN, ↓w_neb, ↓w_isB, ↓w_notB, ↓w_revL, ↓w_iadd, ↓kW_oz, ↓kPar_2, ↓wS_par, ↓kCh2_b, ↓kCh_fz, ↓wE_chain, ↓w_gcd, ↓kSS_fz, ↓wE_sortSet, ↓w_sortSetI, ↓w_sortSetN, ↓wX_no, ↓kOI_i, ↓wX_yes, ↓wE_sl, ↓w_slT, ↓w_slL, ↓ats0, ↓ats1, ↓ats2, ↓ats3, ↓w_eqOI, ↓w_neOI, ↓w_eqOO, ↓w_isOI, ↓w_notOI, ↓w_revTL, ↓w_revTT, ↓kAuZ_fz, ↓kAuS_i, ↓wS_augS, ↓kEx_fr, ↓kEx_bw, ↓wS_ext, ↓kOn_fz, ↓wE_onFz, ↓w_ss2T, ↓w_ss2L, ↓w_ss2TN, ↓w_ss2LN, ↓w_lsT, ↓w_lsL, ↓w_srtI, ↓w_srtN, ↓w_srtTI, ↓w_srtTN, ↓w_srtP, ↓kG3_i, ↓wI_rg3, ↓wE_comp2, pl_1, pl_2, wipe_1, wipe_2, unw_1, unw_2, List.getD_cons_zero, List.getD_cons_succ, List.set_cons_zero, List.set_cons_succ, List.cons_append, List.nil_append, List.replicate_succ, List.replicate_zero, Nat.reduceSub, Nat.reduceAdd, Nat.reduceLT, plain_no, plain_val, plain_ov, Int.natCast_zero, Int.ofNat_zero, Int.cast_ofNat_Int, decide_eq_true_eq, decide_eq_false_iff_not, Bool.not_eq_true', Bool.not_eq_false', Bool.not_true, Bool.not_false, if_true, if_false, true_and, and_true, forall_const, decide_true, decide_false, Int.toNat_natCast, Int.reduceEq, Int.reduceNe, Int.reduceLT, Int.reduceLE, Int.zero_add, implies_true, true_implies, not_true_eq_false, not_false_eq_true, false_implies, false_and, and_false, reduceCtorEq, ite_true, ite_false, eq_self, List.length_cons, List.length_nil, oz_own, oz_val, pl_3, pl_4, wipe_3, wipe_4, unw_3, unw_4]
  refine take_spec (by omega) fun r1 l1 r10 r11 => ?_
  obtain ⟨g, rfl⟩ : ∃ g : Nat, r1 = g := ⟨r1.toNat, by omega⟩
  have hg : g ≤ c * m := by omega
  have hz0 : ((0 : Nat) : Int) = 0 := rfl
  have hr0 := right_eq g c 0 (Nat.zero_le _) (by omega) (by omega) (by omega)
  rw [hz0] at hr0
  have hrz := right_sz (n := g) (c := c) (k := 0) (Nat.zero_le _) (by omega) (by omega) (by omega)
  have hpos : ∀ k : Nat, k ≤ c * m → 0 < chl (c * m) k := fun k hk => (okF_fin hc hc6 hm hcm hk).1
  obtain ⟨a, r, e1, e2, e3, e4⟩ := fits_first (n := c * m) (b := m) hg (none_le hc hc6 hm hcm hg).1
  have hnd := needed_eq (c * m) m (rightQ g c 0) (hrz.mono (by decide)) (by omega) hmn hpos
  rw [e1] at hnd
  have hnd' : F_looks_needed [.val (.int (c * m : Nat)), .val (.int m), .val (fr (rightQ g c 0))] = some (.fz (.int a), []) := hnd
  have i1 : isiD "int" (.int (a : Nat)) = some (.fz (.bool true)) := rfl
  have i2 : isiD "bool" (.int (a : Nat)) = some (.fz (.bool false)) := rfl
  simp only [↓wO_some, ↓wO_none, ↓wSl_0, ↓wSl_s, ↓wP_0, ↓wP_s, ↓kW_no, ↓kW_val, ↓kW_own, ↓kW_ov, ↓wO_setSlot, ↓wE_C, ↓kB_val, ↓kB_own, ↓kB_io, ↓wE_B, ↓kV_val, ↓kV_own, ↓wE_V, ↓kM_val, ↓kM_own, ↓wE_M, ↓kF_fz, ↓kF_bw, ↓kF_fr, ↓wE_F, ↓wR_fz, ↓kCt_val, ↓kCt_own, ↓kCt_io, ↓wR_bw, ↓wE_bin, ↓wE_un, ↓wA_nil, ↓kA_fz, ↓kA_bw, ↓kA_fr, ↓wA_cons, ↓wRs_nil, ↓wRs_cons, ↓wE_args, ↓wZ_nil, ↓wZ_cons, ↓kSz_0, ↓kSz_1, ↓kSz_2, ↓kSz_3, ↓kSz_4, ↓kSz_5, ↓kSz_6, ↓kSz_7, ↓kSz_8, ↓wE_tup, ↓wE_lst, ↓kT_bool, ↓wT_tst, ↓wT_and, ↓wT_or, ↓wT_not, ↓wT_yes, ↓wE_bool, ↓wE_if, ↓kAs_val, ↓kAs_own, ↓kAs_io, ↓wAs_nil, ↓wAs_fz, ↓wAs_bw, ↓kOut_nil, ↓kOut_nilr, ↓kPut_own, ↓kPut_io, ↓kOut_one, ↓kOut_oner, ↓wE_call, ↓w_add, ↓w_sub, ↓w_mul, ↓w_mulI, ↓w_fdiv, ↓w_mod, ↓w_neg, ↓w_lt, ↓w_le, ↓w_gt, ↓w_ge, ↓w_eq, ↓w_ne, ↓w_abs, ↓w_min2, ↓w_max2, ↓w_int, ↓w_intb, ↓w_pow, ↓w_lenL, ↓w_lenT, ↓w_ixL, ↓w_ixT, ↓w_tupL, ↓w_tupT, ↓w_listL, ↓w_listT, ↓kS_nx, ↓kS_bk, ↓kS_rt, ↓wS_nx, ↓wS_bk, ↓wS_seq, ↓kSt_fz, ↓kSt_fr, ↓wS_set, ↓kR_fz, ↓kR_fr, ↓wS_ret, ↓wS_retN, ↓wS_drop, ↓wS_if, ↓kAg_val, ↓wS_aug, ↓wG_N, ↓wG_T, ↓wGs_nil, ↓wGs_cons, ↓kIt_L, ↓kIt_T, ↓wI_seq, ↓kG1_i, ↓wI_rg1, ↓kG2_i, ↓wI_rg2, ↓wS_for, ↓wS_while, ↓kAz_fz, ↓wS_asg, ↓kL_nx, ↓kL_bk, ↓kL_rt, ↓wE_comp, ↓wU_nil, ↓wU_io, ↓wU_val, ↓kFn_fz, ↓kFn_fr, ↓kFn_nx, ↓wM_append, ↓wM_pop, ↓wM_rev, ↓wM_ins, ↓wM_popAt, ↓kMt_own, ↓kMt_io, ↓wE_mut, ↓wE_mut0, ↓kSi_i, ↓kSo_fz, ↓wS_store, ↓wE_meth, ↓w_addLL, ↓w_addTT, ↓w_mulLI, ↓w_mulTI, ↓w_inTI, ↓w_inLI, ↓w_inTN, ↓w_inLN, ↓w_sumTI, ↓w_sumLI, ↓w_sumTN, ↓w_sumLN, ↓w_cntTI, ↓w_cntTN, ↓w_cntLI, ↓w_cntLN, ↓kTR1_i, ↓kLR1_i, ↓wE_tupRg1, ↓wE_listRg1, ↓kTR2b_i, ↓kTR2_i, ↓kLR2b_i, ↓kLR2_i, ↓w_isN_none, ↓w_isN_bool, ↓w_isN_int, ↓w_isN_str, ↓w_isN_tuple, ↓w_notN_none, ↓w_notN_bool, ↓w_notN_int, ↓w_notN_str, ↓w_notN_tuple, ↓w_eqb, ↓w_eqLN, ↓w_neLN, ↓w_eqTN, ↓w_neTN, ↓w_neb, ↓w_isB, ↓w_notB, ↓w_revL, ↓w_iadd, ↓kW_oz, ↓kPar_2, ↓wS_par, ↓kCh2_b, ↓kCh_fz, ↓wE_chain, ↓w_gcd, ↓kSS_fz, ↓wE_sortSet, ↓w_sortSetI, ↓w_sortSetN, ↓wX_no, ↓kOI_i, ↓wX_yes, ↓wE_sl, ↓w_slT, ↓w_slL, ↓ats0, ↓ats1, ↓ats2, ↓ats3, ↓w_eqOI, ↓w_neOI, ↓w_eqOO, ↓w_isOI, ↓w_notOI, ↓w_revTL, ↓w_revTT, ↓kAuZ_fz, ↓kAuS_i, ↓wS_augS, ↓kEx_fr, ↓kEx_bw, ↓wS_ext, ↓kOn_fz, ↓wE_onFz, ↓w_ss2T, ↓w_ss2L, ↓w_ss2TN, ↓w_ss2LN, ↓w_lsT, ↓w_lsL, ↓w_srtI, ↓w_srtN, ↓w_srtTI, ↓w_srtTN, ↓w_srtP, ↓kG3_i, ↓wI_rg3, ↓wE_comp2, pl_1, pl_2, wipe_1, wipe_2, unw_1, unw_2, List.getD_cons_zero, List.getD_cons_succ, List.set_cons_zero, List.set_cons_succ, List.cons_append, List.nil_append, List.replicate_succ, List.replicate_zero, Nat.reduceSub, Nat.reduceAdd, Nat.reduceLT, plain_no, plain_val, plain_ov, Int.natCast_zero, Int.ofNat_zero, Int.cast_ofNat_Int, decide_eq_true_eq, decide_eq_false_iff_not, Bool.not_eq_true', Bool.not_eq_false', Bool.not_true, Bool.not_false, if_true, if_false, true_and, and_true, forall_const, decide_true, decide_false, Int.toNat_natCast, Int.reduceEq, Int.reduceNe, Int.reduceLT, Int.reduceLE, Int.zero_add, implies_true, true_implies, not_true_eq_false, not_false_eq_true, false_implies, false_and, and_false, reduceCtorEq, ite_true, ite_false, eq_self, List.length_cons, List.length_nil, oz_own, oz_val, pl_3, pl_4, wipe_3, wipe_4, unw_3, unw_4, hr0, dk (show 1 ≤ c by omega) (by omega), fdiv_nat, hdv, hnd', i1, i2]
  refine ⟨fun z => absurd z (by omega), fun _ => ⟨fun _ => h l1, fun h0 => ?_⟩⟩
  obtain ⟨b, rfl⟩ : ∃ b, a = b + 1 := ⟨a - 1, by omega⟩
  have e5 : ((b + 1 : Nat) : Int) - 1 = (b : Nat) := by omega
  have hci : 0 < chI ((c * m : Nat) : Int) (b : Int) := by rw [chI_nat]; exact hpos b (by omega)
  have hlt : rightQ g c 0 < foundQ ((c * m : Nat) : Int) (m : Int) (b : Int) 0 := Rat.not_le.mp (e4 b (by omega))
  have hnz := found_sz (n := (c * m : Nat)) (b := m) (k := b) (f := 0) (by omega) (by omega) (by omega) hci
  simp only [↓wO_some, ↓wO_none, ↓wSl_0, ↓wSl_s, ↓wP_0, ↓wP_s, ↓kW_no, ↓kW_val, ↓kW_own, ↓kW_ov, ↓wO_setSlot, ↓wE_C, ↓kB_val, ↓kB_own, ↓kB_io, ↓wE_B, ↓kV_val, ↓kV_own, ↓wE_V, ↓kM_val, ↓kM_own, ↓wE_M, ↓kF_fz, ↓kF_bw, ↓kF_fr, ↓wE_F, ↓wR_fz, ↓kCt_val, ↓kCt_own, ↓kCt_io, ↓wR_bw, ↓wE_bin, ↓wE_un, ↓wA_nil, ↓kA_fz, ↓kA_bw, ↓kA_fr, ↓wA_cons, ↓wRs_nil, ↓wRs_cons, ↓wE_args, ↓wZ_nil, ↓wZ_cons, ↓kSz_0, ↓kSz_1, ↓kSz_2, ↓kSz_3, ↓kSz_4, ↓kSz_5, ↓kSz_6, ↓kSz_7, ↓kSz_8, ↓wE_tup, ↓wE_lst, ↓kT_bool, ↓wT_tst, ↓wT_and, ↓wT_or, ↓wT_not, ↓wT_yes, ↓wE_bool, ↓wE_if, ↓kAs_val, ↓kAs_own, ↓kAs_io, ↓wAs_nil, ↓wAs_fz, ↓wAs_bw, ↓kOut_nil, ↓kOut_nilr, ↓kPut_own, ↓kPut_io, ↓kOut_one, ↓kOut_oner, ↓wE_call, ↓w_add, ↓w_sub, ↓w_mul, ↓w_mulI, ↓w_fdiv, ↓w_mod, ↓w_neg, ↓w_lt, ↓w_le, ↓w_gt, ↓w_ge, ↓w_eq, ↓w_ne, ↓w_abs, ↓w_min2, ↓w_max2, ↓w_int, ↓w_intb, ↓w_pow, ↓w_lenL, ↓w_lenT, ↓w_ixL, ↓w_ixT, ↓w_tupL, ↓w_tupT, ↓w_listL, ↓w_listT, ↓kS_nx, ↓kS_bk, ↓kS_rt, ↓wS_nx, ↓wS_bk, ↓wS_seq, ↓kSt_fz, ↓kSt_fr, ↓wS_set, ↓kR_fz, ↓kR_fr, ↓wS_ret, ↓wS_retN, ↓wS_drop, ↓wS_if, ↓kAg_val, ↓wS_aug, ↓wG_N, ↓wG_T, ↓wGs_nil, ↓wGs_cons, ↓kIt_L, ↓kIt_T, ↓wI_seq, ↓kG1_i, ↓wI_rg1, ↓kG2_i, ↓wI_rg2, ↓wS_for, ↓wS_while, ↓kAz_fz, ↓wS_asg, ↓kL_nx, ↓kL_bk, ↓kL_rt, ↓wE_comp, ↓wU_nil, ↓wU_io, ↓wU_val, ↓kFn_fz, ↓kFn_fr, ↓kFn_nx, ↓wM_append, ↓wM_pop, ↓wM_rev, ↓wM_ins, ↓wM_popAt, ↓kMt_own, ↓kMt_io, ↓wE_mut, ↓wE_mut0, ↓kSi_i, ↓kSo_fz, ↓wS_store, ↓wE_meth, ↓w_addLL, ↓w_addTT, ↓w_mulLI, ↓w_mulTI, ↓w_inTI, ↓w_inLI, ↓w_inTN, ↓w_inLN, ↓w_sumTI, ↓w_sumLI, ↓w_sumTN, ↓w_sumLN, ↓w_cntTI, ↓w_cntTN, ↓w_cntLI, ↓w_cntLN, ↓kTR1_i, ↓kLR1_i, ↓wE_tupRg1, ↓wE_listRg1, ↓kTR2b_i, ↓kTR2_i, ↓kLR2b_i, ↓kLR2_i, ↓w_isN_none, ↓w_isN_bool, ↓w_isN_int, ↓w_isN_str, ↓w_isN_tuple, ↓w_notN_none, ↓w_notN_bool, ↓w_notN_int, ↓w_notN_str, ↓w_notN_tuple, ↓w_eqb, ↓w_eqLN, ↓w_neLN, ↓w_eqTN, ↓w_neTN, ↓w_neb, ↓w_isB, ↓w_notB, ↓w_revL, ↓w_iadd, ↓kW_oz, ↓kPar_2, ↓wS_par, ↓kCh2_b, ↓kCh_fz, ↓wE_chain, ↓w_gcd, ↓kSS_fz, ↓wE_sortSet, ↓w_sortSetI, ↓w_sortSetN, ↓wX_no, ↓kOI_i, ↓wX_yes, ↓wE_sl, ↓w_slT, ↓w_slL, ↓ats0, ↓ats1, ↓ats2, ↓ats3, ↓w_eqOI, ↓w_neOI, ↓w_eqOO, ↓w_isOI, ↓w_notOI, ↓w_revTL, ↓w_revTT, ↓kAuZ_fz, ↓kAuS_i, ↓wS_augS, ↓kEx_fr, ↓kEx_bw, ↓wS_ext, ↓kOn_fz, ↓wE_onFz, ↓w_ss2T, ↓w_ss2L, ↓w_ss2TN, ↓w_ss2LN, ↓w_lsT, ↓w_lsL, ↓w_srtI, ↓w_srtN, ↓w_srtTI, ↓w_srtTN, ↓w_srtP, ↓kG3_i, ↓wI_rg3, ↓wE_comp2, pl_1, pl_2, wipe_1, wipe_2, unw_1, unw_2, List.getD_cons_zero, List.getD_cons_succ, List.set_cons_zero, List.set_cons_succ, List.cons_append, List.nil_append, List.replicate_succ, List.replicate_zero, Nat.reduceSub, Nat.reduceAdd, Nat.reduceLT, plain_no, plain_val, plain_ov, Int.natCast_zero, Int.ofNat_zero, Int.cast_ofNat_Int, decide_eq_true_eq, decide_eq_false_iff_not, Bool.not_eq_true', Bool.not_eq_false', Bool.not_true, Bool.not_false, if_true, if_false, true_and, and_true, forall_const, decide_true, decide_false, Int.toNat_natCast, Int.reduceEq, Int.reduceNe, Int.reduceLT, Int.reduceLE, Int.zero_add, implies_true, true_implies, not_true_eq_false, not_false_eq_true, false_implies, false_and, and_false, reduceCtorEq, ite_true, ite_false, eq_self, List.length_cons, List.length_nil, oz_own, oz_val, pl_3, pl_4, wipe_3, wipe_4, unw_3, unw_4, dk (show 1 ≤ c by omega) (by omega), fdiv_nat, hdv, e5, none_eq (c * m : Nat) m b (by omega) (by omega) (by omega) hci, is_less_eq hrz hnz (by decide : 600 + 800 ≤ 900000), hlt]
  exact h l1
end K89


set_option Elab.async false
set_option linter.all false
set_option maxRecDepth 100000
namespace K89
open PySem PySem.Spec Ev
/-! ### all rows, case by case -/
def st4 (l : D) (c m n k : Nat) : Ρ := [.io l, .val (.int c), .val (.int m), .val (.int n), .val (.int k), .no, .no, .no, .no, .no, .no, .no, .no]
theorem rows_2_1_0 (l : D) : ((B__law_are_rows_right_4 (st4 l 2 1 2 0)).map fun p => (p.1, p.2.head?)) = some (.rt (.fz (.bool true)), some (.io l)) := by kernel_rfl
theorem rows_2_1_1 (l : D) : ((B__law_are_rows_right_4 (st4 l 2 1 2 1)).map fun p => (p.1, p.2.head?)) = some (.rt (.fz (.bool true)), some (.io l)) := by kernel_rfl
theorem rows_2_1_2 (l : D) : ((B__law_are_rows_right_4 (st4 l 2 1 2 2)).map fun p => (p.1, p.2.head?)) = some (.rt (.fz (.bool true)), some (.io l)) := by kernel_rfl
theorem rows_2_2_0 (l : D) : ((B__law_are_rows_right_4 (st4 l 2 2 4 0)).map fun p => (p.1, p.2.head?)) = some (.rt (.fz (.bool true)), some (.io l)) := by kernel_rfl
theorem rows_2_2_1 (l : D) : ((B__law_are_rows_right_4 (st4 l 2 2 4 1)).map fun p => (p.1, p.2.head?)) = some (.rt (.fz (.bool true)), some (.io l)) := by kernel_rfl
theorem rows_2_2_2 (l : D) : ((B__law_are_rows_right_4 (st4 l 2 2 4 2)).map fun p => (p.1, p.2.head?)) = some (.rt (.fz (.bool true)), some (.io l)) := by kernel_rfl
theorem rows_2_2_3 (l : D) : ((B__law_are_rows_right_4 (st4 l 2 2 4 3)).map fun p => (p.1, p.2.head?)) = some (.rt (.fz (.bool true)), some (.io l)) := by kernel_rfl
theorem rows_3_1_0 (l : D) : ((B__law_are_rows_right_4 (st4 l 3 1 3 0)).map fun p => (p.1, p.2.head?)) = some (.rt (.fz (.bool true)), some (.io l)) := by kernel_rfl
theorem rows_3_1_1 (l : D) : ((B__law_are_rows_right_4 (st4 l 3 1 3 1)).map fun p => (p.1, p.2.head?)) = some (.rt (.fz (.bool true)), some (.io l)) := by kernel_rfl
theorem rows_3_1_2 (l : D) : ((B__law_are_rows_right_4 (st4 l 3 1 3 2)).map fun p => (p.1, p.2.head?)) = some (.rt (.fz (.bool true)), some (.io l)) := by kernel_rfl
theorem rows_3_1_3 (l : D) : ((B__law_are_rows_right_4 (st4 l 3 1 3 3)).map fun p => (p.1, p.2.head?)) = some (.rt (.fz (.bool true)), some (.io l)) := by kernel_rfl
theorem rows_3_2_0 (l : D) : ((B__law_are_rows_right_4 (st4 l 3 2 6 0)).map fun p => (p.1, p.2.head?)) = some (.rt (.fz (.bool true)), some (.io l)) := by kernel_rfl
theorem rows_3_2_1 (l : D) : ((B__law_are_rows_right_4 (st4 l 3 2 6 1)).map fun p => (p.1, p.2.head?)) = some (.rt (.fz (.bool true)), some (.io l)) := by kernel_rfl
theorem rows_3_2_2 (l : D) : ((B__law_are_rows_right_4 (st4 l 3 2 6 2)).map fun p => (p.1, p.2.head?)) = some (.rt (.fz (.bool true)), some (.io l)) := by kernel_rfl
theorem rows_3_2_3 (l : D) : ((B__law_are_rows_right_4 (st4 l 3 2 6 3)).map fun p => (p.1, p.2.head?)) = some (.rt (.fz (.bool true)), some (.io l)) := by kernel_rfl
end K89


set_option Elab.async false
set_option linter.all false
set_option maxRecDepth 100000
namespace K89
open PySem PySem.Spec Ev
theorem rows_right {l : Dr} {Q : RV × List D → Prop} (h : ∀ l' : Dr, Q (.fz (.bool true), [l'.d])) : wO (F__law_are_rows_right [.io l.d]) Q := by
  refine wO_fn rfl ?_
  unfold B__law_are_rows_right
  simp only [↓wO_some, ↓wO_none, ↓wSl_0, ↓wSl_s, ↓wP_0, ↓wP_s, ↓kW_no, ↓kW_val, ↓kW_own, ↓kW_ov, ↓wO_setSlot, ↓wE_C, ↓kB_val, ↓kB_own, ↓kB_io, ↓wE_B, ↓kV_val, ↓kV_own, ↓wE_V, ↓kM_val, ↓kM_own, ↓wE_M, ↓kF_fz, ↓kF_bw, ↓kF_fr, ↓wE_F, ↓wR_fz, ↓kCt_val, ↓kCt_own, ↓kCt_io, ↓wR_bw, ↓wE_bin, ↓wE_un, ↓wA_nil, ↓kA_fz, ↓kA_bw, ↓kA_fr, ↓wA_cons, ↓wRs_nil, ↓wRs_cons, ↓wE_args, ↓wZ_nil, ↓wZ_cons, ↓kSz_0, ↓kSz_1, ↓kSz_2, ↓kSz_3, ↓kSz_4, ↓kSz_5, ↓kSz_6, ↓kSz_7, ↓kSz_8, ↓wE_tup, ↓wE_lst, ↓kT_bool, ↓wT_tst, ↓wT_and, ↓wT_or, ↓wT_not, ↓wT_yes, ↓wE_bool, ↓wE_if, ↓kAs_val, ↓kAs_own, ↓kAs_io, ↓wAs_nil, ↓wAs_fz, ↓wAs_bw, ↓kOut_nil, ↓kOut_nilr, ↓kPut_own, ↓kPut_io, ↓kOut_one, ↓kOut_oner, ↓wE_call, ↓w_add, ↓w_sub, ↓w_mul, ↓w_mulI, ↓w_fdiv, ↓w_mod, ↓w_neg, ↓w_lt, ↓w_le, ↓w_gt, ↓w_ge, ↓w_eq, ↓w_ne, ↓w_abs, ↓w_min2, ↓w_max2, ↓w_int, ↓w_intb, ↓w_pow, ↓w_lenL, ↓w_lenT, ↓w_ixL, ↓w_ixT, ↓w_tupL, ↓w_tupT, ↓w_listL, ↓w_listT, ↓kS_nx, ↓kS_bk, ↓kS_rt, ↓wS_nx, ↓wS_bk, ↓wS_seq, ↓kSt_fz, ↓kSt_fr, ↓wS_set, ↓kR_fz, ↓kR_fr, ↓wS_ret, ↓wS_retN, ↓wS_drop, ↓wS_if, ↓kAg_val, ↓wS_aug, ↓wG_N, ↓wG_T, ↓wGs_nil, ↓wGs_cons, ↓kIt_L, ↓kIt_T, ↓wI_seq, ↓kG1_i, ↓wI_rg1, ↓kG2_i, ↓wI_rg2, ↓wS_for, ↓wS_while, ↓kAz_fz, ↓wS_asg, ↓kL_nx, ↓kL_bk, ↓kL_rt, ↓wE_comp, ↓wU_nil, ↓wU_io, ↓wU_val, ↓kFn_fz, ↓kFn_fr, ↓kFn_nx, ↓wM_append, ↓wM_pop, ↓wM_rev, ↓wM_ins, ↓wM_popAt, ↓kMt_own, ↓kMt_io, ↓wE_mut, ↓wE_mut0, ↓kSi_i, ↓kSo_fz, ↓wS_store, ↓wE_meth, ↓w_addLL, ↓w_addTT, ↓w_mulLI, ↓w_mulTI, ↓w_inTI, ↓w_inLI, ↓w_inTN, ↓w_inLN, ↓w_sumTI, ↓w_sumLI, ↓w_sumTN, ↓w_sumLN, ↓w_cntTI, ↓w_cntTN, ↓w_cntLI, ↓w_cntLN, ↓kTR1_i, ↓kLR1_i, ↓wE_tupRg1, ↓wE_listRg1, ↓kTR2b_i, ↓kTR2_i, ↓kLR2b_i, ↓kLR2_i, ↓w_isN_none, ↓w_isN_bool, ↓w_isN_int, ↓w_isN_str, ↓w_isN_tuple, ↓w_notN_none, ↓w_notN_bool, ↓w_notN_int, ↓w_notN_str, ↓w_notN_tuple, ↓w_eqb, ↓w_eqLN, ↓w_neLN, ↓w_eqTN, ↓w_neTN, ↓w_neb, ↓w_isB, ↓w_notB, ↓w_revL, ↓w_iadd, ↓kW_oz, ↓kPar_2, ↓wS_par, ↓kCh2_b, ↓kCh_fz, ↓wE_chain, ↓w_gcd, ↓kSS_fz, ↓wE_sortSet, ↓w_sortSetI, ↓w_sortSetN, ↓wX_no, ↓kOI_i, ↓wX_yes, ↓wE_sl, ↓w_slT, ↓w_slL, ↓ats0, ↓ats1, ↓ats2, ↓ats3, ↓w_eqOI, ↓w_neOI, ↓w_eqOO, ↓w_isOI, ↓w_notOI, ↓w_revTL, ↓w_revTT, ↓kAuZ_fz, ↓kAuS_i, ↓wS_augS, ↓kEx_fr, ↓kEx_bw, ↓wS_ext, ↓kOn_fz, ↓wE_onFz, ↓w_ss2T, ↓w_ss2L, ↓w_ss2TN, ↓w_ss2LN, ↓w_lsT, ↓w_lsL, ↓w_srtI, ↓w_srtN, ↓w_srtTI, ↓w_srtTN, ↓w_srtP, ↓kG3_i, ↓wI_rg3, ↓wE_comp2, pl_1, pl_2, wipe_1, wipe_2, unw_1, unw_2, List.getD_cons_zero, List.getD_cons_succ, List.set_cons_zero, List.set_cons_succ, List.cons_append, List.nil_append, List.replicate_succ, List.replicate_zero, Nat.reduceSub, Nat.reduceAdd, Nat.reduceLT, plain_no, plain_val, plain_ov, Int.natCast_zero, Int.ofNat_zero, Int.cast_ofNat_Int, decide_eq_true_eq, decide_eq_false_iff_not, Bool.not_eq_true', Bool.not_eq_false', Bool.not_true, Bool.not_false, if_true, if_false, true_and, and_true, forall_const, decide_true, decide_false, Int.toNat_natCast, Int.reduceEq, Int.reduceNe, Int.reduceLT, Int.reduceLE, Int.zero_add, implies_true, true_implies, not_true_eq_false, not_false_eq_true, false_implies, false_and, and_false, reduceCtorEq, ite_true, ite_false, eq_self, List.length_cons, List.length_nil, oz_own, oz_val, pl_3, pl_4, wipe_3, wipe_4, unw_3, unw_4]
  refine take_spec (by decide) fun r1 l1 r10 r11 => ?_
  simp only [↓wO_some, ↓wO_none, ↓wSl_0, ↓wSl_s, ↓wP_0, ↓wP_s, ↓kW_no, ↓kW_val, ↓kW_own, ↓kW_ov, ↓wO_setSlot, ↓wE_C, ↓kB_val, ↓kB_own, ↓kB_io, ↓wE_B, ↓kV_val, ↓kV_own, ↓wE_V, ↓kM_val, ↓kM_own, ↓wE_M, ↓kF_fz, ↓kF_bw, ↓kF_fr, ↓wE_F, ↓wR_fz, ↓kCt_val, ↓kCt_own, ↓kCt_io, ↓wR_bw, ↓wE_bin, ↓wE_un, ↓wA_nil, ↓kA_fz, ↓kA_bw, ↓kA_fr, ↓wA_cons, ↓wRs_nil, ↓wRs_cons, ↓wE_args, ↓wZ_nil, ↓wZ_cons, ↓kSz_0, ↓kSz_1, ↓kSz_2, ↓kSz_3, ↓kSz_4, ↓kSz_5, ↓kSz_6, ↓kSz_7, ↓kSz_8, ↓wE_tup, ↓wE_lst, ↓kT_bool, ↓wT_tst, ↓wT_and, ↓wT_or, ↓wT_not, ↓wT_yes, ↓wE_bool, ↓wE_if, ↓kAs_val, ↓kAs_own, ↓kAs_io, ↓wAs_nil, ↓wAs_fz, ↓wAs_bw, ↓kOut_nil, ↓kOut_nilr, ↓kPut_own, ↓kPut_io, ↓kOut_one, ↓kOut_oner, ↓wE_call, ↓w_add, ↓w_sub, ↓w_mul, ↓w_mulI, ↓w_fdiv, ↓w_mod, ↓w_neg, ↓w_lt, ↓w_le, ↓w_gt, ↓w_ge, ↓w_eq, ↓w_ne, ↓w_abs, ↓w_min2, ↓w_max2, ↓w_int, ↓w_intb, ↓w_pow, ↓w_lenL, ↓w_lenT, ↓w_ixL, ↓w_ixT, ↓w_tupL, ↓w_tupT, ↓w_listL, ↓w_listT, ↓kS_nx, ↓kS_bk, ↓kS_rt, ↓wS_nx, ↓wS_bk, ↓wS_seq, ↓kSt_fz, ↓kSt_fr, ↓wS_set, ↓kR_fz, ↓kR_fr, ↓wS_ret, ↓wS_retN, ↓wS_drop, ↓wS_if, ↓kAg_val, ↓wS_aug, ↓wG_N, ↓wG_T, ↓wGs_nil, ↓wGs_cons, ↓kIt_L, ↓kIt_T, ↓wI_seq, ↓kG1_i, ↓wI_rg1, ↓kG2_i, ↓wI_rg2, ↓wS_for, ↓wS_while, ↓kAz_fz, ↓wS_asg, ↓kL_nx, ↓kL_bk, ↓kL_rt, ↓wE_comp, ↓wU_nil, ↓wU_io, ↓wU_val, ↓kFn_fz, ↓kFn_fr, ↓kFn_nx, ↓wM_append, ↓wM_pop, ↓wM_rev, ↓wM_ins, ↓wM_popAt, ↓kMt_own, ↓kMt_io, ↓wE_mut, ↓wE_mut0, ↓kSi_i, ↓kSo_fz, ↓wS_store, ↓wE_meth, ↓w_addLL, ↓w_addTT, ↓w_mulLI, ↓w_mulTI, ↓w_inTI, ↓w_inLI, ↓w_inTN, ↓w_inLN, ↓w_sumTI, ↓w_sumLI, ↓w_sumTN, ↓w_sumLN, ↓w_cntTI, ↓w_cntTN, ↓w_cntLI, ↓w_cntLN, ↓kTR1_i, ↓kLR1_i, ↓wE_tupRg1, ↓wE_listRg1, ↓kTR2b_i, ↓kTR2_i, ↓kLR2b_i, ↓kLR2_i, ↓w_isN_none, ↓w_isN_bool, ↓w_isN_int, ↓w_isN_str, ↓w_isN_tuple, ↓w_notN_none, ↓w_notN_bool, ↓w_notN_int, ↓w_notN_str, ↓w_notN_tuple, ↓w_eqb, ↓w_eqLN, ↓w_neLN, ↓w_eqTN, ↓w_neTN, ↓w_neb, ↓w_isB, ↓w_notB, ↓w_revL, ↓w_iadd, ↓kW_oz, ↓kPar_2, ↓wS_par, ↓kCh2_b, ↓kCh_fz, ↓wE_chain, ↓w_gcd, ↓kSS_fz, ↓wE_sortSet, ↓w_sortSetI, ↓w_sortSetN, ↓wX_no, ↓kOI_i, ↓wX_yes, ↓wE_sl, ↓w_slT, ↓w_slL, ↓ats0, ↓ats1, ↓ats2, ↓ats3, ↓w_eqOI, ↓w_neOI, ↓w_eqOO, ↓w_isOI, ↓w_notOI, ↓w_revTL, ↓w_revTT, ↓kAuZ_fz, ↓kAuS_i, ↓wS_augS, ↓kEx_fr, ↓kEx_bw, ↓wS_ext, ↓kOn_fz, ↓wE_onFz, ↓w_ss2T, ↓w_ss2L, ↓w_ss2TN, ↓w_ss2LN, ↓w_lsT, ↓w_lsL, ↓w_srtI, ↓w_srtN, ↓w_srtTI, ↓w_srtTN, ↓w_srtP, ↓kG3_i, ↓wI_rg3, ↓wE_comp2, pl_1, pl_2, wipe_1, wipe_2, unw_1, unw_2, List.getD_cons_zero, List.getD_cons_succ, List.set_cons_zero, List.set_cons_succ, List.cons_append, List.nil_append, List.replicate_succ, List.replicate_zero, Nat.reduceSub, Nat.reduceAdd, Nat.reduceLT, plain_no, plain_val, plain_ov, Int.natCast_zero, Int.ofNat_zero, Int.cast_ofNat_Int, decide_eq_true_eq, decide_eq_false_iff_not, Bool.not_eq_true', Bool.not_eq_false', Bool.not_true, Bool.not_false, if_true, if_false, true_and, and_true, forall_const, decide_true, decide_false, Int.toNat_natCast, Int.reduceEq, Int.reduceNe, Int.reduceLT, Int.reduceLE, Int.zero_add, implies_true, true_implies, not_true_eq_false, not_false_eq_true, false_implies, false_and, and_false, reduceCtorEq, ite_true, ite_false, eq_self, List.length_cons, List.length_nil, oz_own, oz_val, pl_3, pl_4, wipe_3, wipe_4, unw_3, unw_4, B__law_are_rows_right_1]
  refine take_spec (by decide) fun r2 l2 r20 r21 => ?_
  obtain ⟨c, hc, hc1⟩ : ∃ c : Nat, 2 + r1 = c ∧ (c = 2 ∨ c = 3) := ⟨(2 + r1).toNat, by omega, by omega⟩
  obtain ⟨m, hm, hm1⟩ : ∃ m : Nat, 1 + r2 = m ∧ (m = 1 ∨ m = 2) := ⟨(1 + r2).toNat, by omega, by omega⟩
  have hmm : mulOk (c : Int) (m : Int) = true := mulOk_of (.inr (by omega))
  simp only [↓wO_some, ↓wO_none, ↓wSl_0, ↓wSl_s, ↓wP_0, ↓wP_s, ↓kW_no, ↓kW_val, ↓kW_own, ↓kW_ov, ↓wO_setSlot, ↓wE_C, ↓kB_val, ↓kB_own, ↓kB_io, ↓wE_B, ↓kV_val, ↓kV_own, ↓wE_V, ↓kM_val, ↓kM_own, ↓wE_M, ↓kF_fz, ↓kF_bw, ↓kF_fr, ↓wE_F, ↓wR_fz, ↓kCt_val, ↓kCt_own, ↓kCt_io, ↓wR_bw, ↓wE_bin, ↓wE_un, ↓wA_nil, ↓kA_fz, ↓kA_bw, ↓kA_fr, ↓wA_cons, ↓wRs_nil, ↓wRs_cons, ↓wE_args, ↓wZ_nil, ↓wZ_cons, ↓kSz_0, ↓kSz_1, ↓kSz_2, ↓kSz_3, ↓kSz_4, ↓kSz_5, ↓kSz_6, ↓kSz_7, ↓kSz_8, ↓wE_tup, ↓wE_lst, ↓kT_bool, ↓wT_tst, ↓wT_and, ↓wT_or, ↓wT_not, ↓wT_yes, ↓wE_bool, ↓wE_if, ↓kAs_val, ↓kAs_own, ↓kAs_io, ↓wAs_nil, ↓wAs_fz, ↓wAs_bw, ↓kOut_nil, ↓kOut_nilr, ↓kPut_own, ↓kPut_io, ↓kOut_one, ↓kOut_oner, ↓wE_call, ↓w_add, ↓w_sub, ↓w_mul, ↓w_mulI, ↓w_fdiv, ↓w_mod, ↓w_neg, ↓w_lt, ↓w_le, ↓w_gt, ↓w_ge, ↓w_eq, ↓w_ne, ↓w_abs, ↓w_min2, ↓w_max2, ↓w_int, ↓w_intb, ↓w_pow, ↓w_lenL, ↓w_lenT, ↓w_ixL, ↓w_ixT, ↓w_tupL, ↓w_tupT, ↓w_listL, ↓w_listT, ↓kS_nx, ↓kS_bk, ↓kS_rt, ↓wS_nx, ↓wS_bk, ↓wS_seq, ↓kSt_fz, ↓kSt_fr, ↓wS_set, ↓kR_fz, ↓kR_fr, ↓wS_ret, ↓wS_retN, ↓wS_drop, ↓wS_if, ↓kAg_val, ↓wS_aug, ↓wG_N, ↓wG_T, ↓wGs_nil, ↓wGs_cons, ↓kIt_L, ↓kIt_T, ↓wI_seq, ↓kG1_i, ↓wI_rg1, ↓kG2_i, ↓wI_rg2, ↓wS_for, ↓wS_while, ↓kAz_fz, ↓wS_asg, ↓kL_nx, ↓kL_bk, ↓kL_rt, ↓wE_comp, ↓wU_nil, ↓wU_io, ↓wU_val, ↓kFn_fz, ↓kFn_fr, ↓kFn_nx, ↓wM_append, ↓wM_pop, ↓wM_rev, ↓wM_ins, ↓wM_popAt, ↓kMt_own, ↓kMt_io, ↓wE_mut, ↓wE_mut0, ↓kSi_i, ↓kSo_fz, ↓wS_store, ↓wE_meth, ↓w_addLL, ↓w_addTT, ↓w_mulLI, ↓w_mulTI, ↓w_inTI, ↓w_inLI, ↓w_inTN, ↓w_inLN, ↓w_sumTI, ↓w_sumLI, ↓w_sumTN, ↓w_sumLN, ↓w_cntTI, ↓w_cntTN, ↓w_cntLI, ↓w_cntLN, ↓kTR1_i, ↓kLR1_i, ↓wE_tupRg1, ↓wE_listRg1, ↓kTR2b_i, ↓kTR2_i, ↓kLR2b_i, ↓kLR2_i, ↓w_isN_none, ↓w_isN_bool, ↓w_isN_int, ↓w_isN_str, ↓w_isN_tuple, ↓w_notN_none, ↓w_notN_bool, ↓w_notN_int, ↓w_notN_str, ↓w_notN_tuple, ↓w_eqb, ↓w_eqLN, ↓w_neLN, ↓w_eqTN, ↓w_neTN, ↓w_neb, ↓w_isB, ↓w_notB, ↓w_revL, ↓w_iadd, ↓kW_oz, ↓kPar_2, ↓wS_par, ↓kCh2_b, ↓kCh_fz, ↓wE_chain, ↓w_gcd, ↓kSS_fz, ↓wE_sortSet, ↓w_sortSetI, ↓w_sortSetN, ↓wX_no, ↓kOI_i, ↓wX_yes, ↓wE_sl, ↓w_slT, ↓w_slL, ↓ats0, ↓ats1, ↓ats2, ↓ats3, ↓w_eqOI, ↓w_neOI, ↓w_eqOO, ↓w_isOI, ↓w_notOI, ↓w_revTL, ↓w_revTT, ↓kAuZ_fz, ↓kAuS_i, ↓wS_augS, ↓kEx_fr, ↓kEx_bw, ↓wS_ext, ↓kOn_fz, ↓wE_onFz, ↓w_ss2T, ↓w_ss2L, ↓w_ss2TN, ↓w_ss2LN, ↓w_lsT, ↓w_lsL, ↓w_srtI, ↓w_srtN, ↓w_srtTI, ↓w_srtTN, ↓w_srtP, ↓kG3_i, ↓wI_rg3, ↓wE_comp2, pl_1, pl_2, wipe_1, wipe_2, unw_1, unw_2, List.getD_cons_zero, List.getD_cons_succ, List.set_cons_zero, List.set_cons_succ, List.cons_append, List.nil_append, List.replicate_succ, List.replicate_zero, Nat.reduceSub, Nat.reduceAdd, Nat.reduceLT, plain_no, plain_val, plain_ov, Int.natCast_zero, Int.ofNat_zero, Int.cast_ofNat_Int, decide_eq_true_eq, decide_eq_false_iff_not, Bool.not_eq_true', Bool.not_eq_false', Bool.not_true, Bool.not_false, if_true, if_false, true_and, and_true, forall_const, decide_true, decide_false, Int.toNat_natCast, Int.reduceEq, Int.reduceNe, Int.reduceLT, Int.reduceLE, Int.zero_add, implies_true, true_implies, not_true_eq_false, not_false_eq_true, false_implies, false_and, and_false, reduceCtorEq, ite_true, ite_false, eq_self, List.length_cons, List.length_nil, oz_own, oz_val, pl_3, pl_4, wipe_3, wipe_4, unw_3, unw_4, B__law_are_rows_right_2, hc, hm, hmm, B__law_are_rows_right_3]
  refine take_spec (by decide) fun r3 l3 r30 r31 => ?_
  simp only [↓wO_some, ↓wO_none, ↓wSl_0, ↓wSl_s, ↓wP_0, ↓wP_s, ↓kW_no, ↓kW_val, ↓kW_own, ↓kW_ov, ↓wO_setSlot, ↓wE_C, ↓kB_val, ↓kB_own, ↓kB_io, ↓wE_B, ↓kV_val, ↓kV_own, ↓wE_V, ↓kM_val, ↓kM_own, ↓wE_M, ↓kF_fz, ↓kF_bw, ↓kF_fr, ↓wE_F, ↓wR_fz, ↓kCt_val, ↓kCt_own, ↓kCt_io, ↓wR_bw, ↓wE_bin, ↓wE_un, ↓wA_nil, ↓kA_fz, ↓kA_bw, ↓kA_fr, ↓wA_cons, ↓wRs_nil, ↓wRs_cons, ↓wE_args, ↓wZ_nil, ↓wZ_cons, ↓kSz_0, ↓kSz_1, ↓kSz_2, ↓kSz_3, ↓kSz_4, ↓kSz_5, ↓kSz_6, ↓kSz_7, ↓kSz_8, ↓wE_tup, ↓wE_lst, ↓kT_bool, ↓wT_tst, ↓wT_and, ↓wT_or, ↓wT_not, ↓wT_yes, ↓wE_bool, ↓wE_if, ↓kAs_val, ↓kAs_own, ↓kAs_io, ↓wAs_nil, ↓wAs_fz, ↓wAs_bw, ↓kOut_nil, ↓kOut_nilr, ↓kPut_own, ↓kPut_io, ↓kOut_one, ↓kOut_oner, ↓wE_call, ↓w_add, ↓w_sub, ↓w_mul, ↓w_mulI, ↓w_fdiv, ↓w_mod, ↓w_neg, ↓w_lt, ↓w_le, ↓w_gt, ↓w_ge, ↓w_eq, ↓w_ne, ↓w_abs, ↓w_min2, ↓w_max2, ↓w_int, ↓w_intb, ↓w_pow, ↓w_lenL, ↓w_lenT, ↓w_ixL, ↓w_ixT, ↓w_tupL, ↓w_tupT, ↓w_listL, ↓w_listT, ↓kS_nx, ↓kS_bk, ↓kS_rt, ↓wS_nx, ↓wS_bk, ↓wS_seq, ↓kSt_fz, ↓kSt_fr, ↓wS_set, ↓kR_fz, ↓kR_fr, ↓wS_ret, ↓wS_retN, ↓wS_drop, ↓wS_if, ↓kAg_val, ↓wS_aug, ↓wG_N, ↓wG_T, ↓wGs_nil, ↓wGs_cons, ↓kIt_L, ↓kIt_T, ↓wI_seq, ↓kG1_i, ↓wI_rg1, ↓kG2_i, ↓wI_rg2, ↓wS_for, ↓wS_while, ↓kAz_fz, ↓wS_asg, ↓kL_nx, ↓kL_bk, ↓kL_rt, ↓wE_comp, ↓wU_nil, ↓wU_io, ↓wU_val, ↓kFn_fz, ↓kFn_fr, ↓kFn_nx, ↓wM_append, ↓wM_pop, ↓wM_rev, ↓wM_ins, ↓wM_popAt, ↓kMt_own, ↓kMt_io, ↓wE_mut, ↓wE_mut0, ↓kSi_i, ↓kSo_fz, ↓wS_store, ↓wE_meth, ↓w_addLL, ↓w_addTT, ↓w_mulLI, ↓w_mulTI, ↓w_inTI, ↓w_inLI, ↓w_inTN, ↓w_inLN, ↓w_sumTI, ↓w_sumLI, ↓w_sumTN, ↓w_sumLN, ↓w_cntTI, ↓w_cntTN, ↓w_cntLI, ↓w_cntLN, ↓kTR1_i, ↓kLR1_i, ↓wE_tupRg1, ↓wE_listRg1, ↓kTR2b_i, ↓kTR2_i, ↓kLR2b_i, ↓kLR2_i, ↓w_isN_none, ↓w_isN_bool, ↓w_isN_int, ↓w_isN_str, ↓w_isN_tuple, ↓w_notN_none, ↓w_notN_bool, ↓w_notN_int, ↓w_notN_str, ↓w_notN_tuple, ↓w_eqb, ↓w_eqLN, ↓w_neLN, ↓w_eqTN, ↓w_neTN, ↓w_neb, ↓w_isB, ↓w_notB, ↓w_revL, ↓w_iadd, ↓kW_oz, ↓kPar_2, ↓wS_par, ↓kCh2_b, ↓kCh_fz, ↓wE_chain, ↓w_gcd, ↓kSS_fz, ↓wE_sortSet, ↓w_sortSetI, ↓w_sortSetN, ↓wX_no, ↓kOI_i, ↓wX_yes, ↓wE_sl, ↓w_slT, ↓w_slL, ↓ats0, ↓ats1, ↓ats2, ↓ats3, ↓w_eqOI, ↓w_neOI, ↓w_eqOO, ↓w_isOI, ↓w_notOI, ↓w_revTL, ↓w_revTT, ↓kAuZ_fz, ↓kAuS_i, ↓wS_augS, ↓kEx_fr, ↓kEx_bw, ↓wS_ext, ↓kOn_fz, ↓wE_onFz, ↓w_ss2T, ↓w_ss2L, ↓w_ss2TN, ↓w_ss2LN, ↓w_lsT, ↓w_lsL, ↓w_srtI, ↓w_srtN, ↓w_srtTI, ↓w_srtTN, ↓w_srtP, ↓kG3_i, ↓wI_rg3, ↓wE_comp2, pl_1, pl_2, wipe_1, wipe_2, unw_1, unw_2, List.getD_cons_zero, List.getD_cons_succ, List.set_cons_zero, List.set_cons_succ, List.cons_append, List.nil_append, List.replicate_succ, List.replicate_zero, Nat.reduceSub, Nat.reduceAdd, Nat.reduceLT, plain_no, plain_val, plain_ov, Int.natCast_zero, Int.ofNat_zero, Int.cast_ofNat_Int, decide_eq_true_eq, decide_eq_false_iff_not, Bool.not_eq_true', Bool.not_eq_false', Bool.not_true, Bool.not_false, if_true, if_false, true_and, and_true, forall_const, decide_true, decide_false, Int.toNat_natCast, Int.reduceEq, Int.reduceNe, Int.reduceLT, Int.reduceLE, Int.zero_add, implies_true, true_implies, not_true_eq_false, not_false_eq_true, false_implies, false_and, and_false, reduceCtorEq, ite_true, ite_false, eq_self, List.length_cons, List.length_nil, oz_own, oz_val, pl_3, pl_4, wipe_3, wipe_4, unw_3, unw_4]
  obtain ⟨k, hk, hk3⟩ : ∃ k : Nat, min r3 ((c : Int) * m) = k ∧ k = min r3.toNat (c * m) := by
    refine ⟨min r3.toNat (c * m), ?_, rfl⟩
    rcases hc1 with rfl | rfl <;> rcases hm1 with rfl | rfl <;> omega
  have hcm : (c : Int) * m = ((c * m : Nat) : Int) := by push_cast; rfl
  have fin : ∀ c m n k : Nat, (∀ l : D, ((B__law_are_rows_right_4 (st4 l c m n k)).map fun p => (p.1, p.2.head?)) = some (.rt (.fz (.bool true)), some (.io l))) → wS B__law_are_rows_right_4 [.io l3.d, .val (.int c), .val (.int m), .val (.int n), .val (.int k), .no, .no, .no, .no, .no, .no, .no, .no] (kFn [.io l.d] Q) := by
    intro c m n k hh
    obtain ⟨⟨ct, ρ'⟩, e1, e2⟩ := Option.map_eq_some_iff.mp (hh l3.d)
    injection e2 with e2 e3
    dsimp only at e2 e3
    subst e2
    cases ρ' with
    | nil => exact nomatch e3
    | cons s t =>
      injection e3 with e3
      subst e3
      refine wO_of e1 ?_
      simp only [↓wO_some, ↓wO_none, ↓wSl_0, ↓wSl_s, ↓wP_0, ↓wP_s, ↓kW_no, ↓kW_val, ↓kW_own, ↓kW_ov, ↓wO_setSlot, ↓wE_C, ↓kB_val, ↓kB_own, ↓kB_io, ↓wE_B, ↓kV_val, ↓kV_own, ↓wE_V, ↓kM_val, ↓kM_own, ↓wE_M, ↓kF_fz, ↓kF_bw, ↓kF_fr, ↓wE_F, ↓wR_fz, ↓kCt_val, ↓kCt_own, ↓kCt_io, ↓wR_bw, ↓wE_bin, ↓wE_un, ↓wA_nil, ↓kA_fz, ↓kA_bw, ↓kA_fr, ↓wA_cons, ↓wRs_nil, ↓wRs_cons, ↓wE_args, ↓wZ_nil, ↓wZ_cons, ↓kSz_0, ↓kSz_1, ↓kSz_2, ↓kSz_3, ↓kSz_4, ↓kSz_5, ↓kSz_6, ↓kSz_7, ↓kSz_8, ↓wE_tup, ↓wE_lst, ↓kT_bool, ↓wT_tst, ↓wT_and, ↓wT_or, ↓wT_not, ↓wT_yes, ↓wE_bool, ↓wE_if, ↓kAs_val, ↓kAs_own, ↓kAs_io, ↓wAs_nil, ↓wAs_fz, ↓wAs_bw, ↓kOut_nil, ↓kOut_nilr, ↓kPut_own, ↓kPut_io, ↓kOut_one, ↓kOut_oner, ↓wE_call, ↓w_add, ↓w_sub, ↓w_mul, ↓w_mulI, ↓w_fdiv, ↓w_mod, ↓w_neg, ↓w_lt, ↓w_le, ↓w_gt, ↓w_ge, ↓w_eq, ↓w_ne, ↓w_abs, ↓w_min2, ↓w_max2, ↓w_int, ↓w_intb, ↓w_pow, ↓w_lenL, ↓w_lenT, ↓w_ixL, ↓w_ixT, ↓w_tupL, ↓w_tupT, ↓w_listL, ↓w_listT, ↓kS_nx, ↓kS_bk, ↓kS_rt, ↓wS_nx, ↓wS_bk, ↓wS_seq, ↓kSt_fz, ↓kSt_fr, ↓wS_set, ↓kR_fz, ↓kR_fr, ↓wS_ret, ↓wS_retN, ↓wS_drop, ↓wS_if, ↓kAg_val, ↓wS_aug, ↓wG_N, ↓wG_T, ↓wGs_nil, ↓wGs_cons, ↓kIt_L, ↓kIt_T, ↓wI_seq, ↓kG1_i, ↓wI_rg1, ↓kG2_i, ↓wI_rg2, ↓wS_for, ↓wS_while, ↓kAz_fz, ↓wS_asg, ↓kL_nx, ↓kL_bk, ↓kL_rt, ↓wE_comp, ↓wU_nil, ↓wU_io, ↓wU_val, ↓kFn_fz, ↓kFn_fr, ↓kFn_nx, ↓wM_append, ↓wM_pop, ↓wM_rev, ↓wM_ins, ↓wM_popAt, ↓kMt_own, ↓kMt_io, ↓wE_mut, ↓wE_mut0, ↓kSi_i, ↓kSo_fz, ↓wS_store, ↓wE_meth, ↓w_addLL, ↓w_addTT, ↓w_mulLI, ↓w_mulTI, ↓w_inTI, ↓w_inLI, ↓w_inTN, ↓w_inLN, ↓w_sumTI, ↓w_sumLI, ↓w_sumTN, ↓w_sumLN, ↓w_cntTI, ↓w_cntTN, ↓w_cntLI, ↓w_cntLN, ↓kTR1_i, ↓kLR1_i, ↓wE_tupRg1, ↓wE_listRg1, ↓kTR2b_i, ↓kTR2_i, ↓kLR2b_i, ↓kLR2_i, ↓w_isN_none, ↓w_isN_bool, ↓w_isN_int, ↓w_isN_str, ↓w_isN_tuple, ↓w_notN_none, ↓w_notN_bool, ↓w_notN_int, ↓w_notN_str, ↓w_notN_tuple, ↓w_eqb, ↓w_eqLN, ↓w_neLN, ↓w_eqTN, ↓w_neTN, ↓w_neb, ↓w_isB, ↓w_notB, ↓w_revL, ↓w_iadd, ↓kW_oz, ↓kPar_2, ↓wS_par, ↓kCh2_b, ↓kCh_fz, ↓wE_chain, ↓w_gcd, ↓kSS_fz, ↓wE_sortSet, ↓w_sortSetI, ↓w_sortSetN, ↓wX_no, ↓kOI_i, ↓wX_yes, ↓wE_sl, ↓w_slT, ↓w_slL, ↓ats0, ↓ats1, ↓ats2, ↓ats3, ↓w_eqOI, ↓w_neOI, ↓w_eqOO, ↓w_isOI, ↓w_notOI, ↓w_revTL, ↓w_revTT, ↓kAuZ_fz, ↓kAuS_i, ↓wS_augS, ↓kEx_fr, ↓kEx_bw, ↓wS_ext, ↓kOn_fz, ↓wE_onFz, ↓w_ss2T, ↓w_ss2L, ↓w_ss2TN, ↓w_ss2LN, ↓w_lsT, ↓w_lsL, ↓w_srtI, ↓w_srtN, ↓w_srtTI, ↓w_srtTN, ↓w_srtP, ↓kG3_i, ↓wI_rg3, ↓wE_comp2, pl_1, pl_2, wipe_1, wipe_2, unw_1, unw_2, List.getD_cons_zero, List.getD_cons_succ, List.set_cons_zero, List.set_cons_succ, List.cons_append, List.nil_append, List.replicate_succ, List.replicate_zero, Nat.reduceSub, Nat.reduceAdd, Nat.reduceLT, plain_no, plain_val, plain_ov, Int.natCast_zero, Int.ofNat_zero, Int.cast_ofNat_Int, decide_eq_true_eq, decide_eq_false_iff_not, Bool.not_eq_true', Bool.not_eq_false', Bool.not_true, Bool.not_false, if_true, if_false, true_and, and_true, forall_const, decide_true, decide_false, Int.toNat_natCast, Int.reduceEq, Int.reduceNe, Int.reduceLT, Int.reduceLE, Int.zero_add, implies_true, true_implies, not_true_eq_false, not_false_eq_true, false_implies, false_and, and_false, reduceCtorEq, ite_true, ite_false, eq_self, List.length_cons, List.length_nil, oz_own, oz_val, pl_3, pl_4, wipe_3, wipe_4, unw_3, unw_4]
      exact h l3
  rw [hk, hcm]
  rcases hc1 with rfl | rfl <;> rcases hm1 with rfl | rfl
  · rcases (by omega : k = 0 ∨ k = 1 ∨ k = 2) with rfl | rfl | rfl
    · exact fin _ _ _ _ rows_2_1_0
    · exact fin _ _ _ _ rows_2_1_1
    · exact fin _ _ _ _ rows_2_1_2
  · rcases (by omega : k = 0 ∨ k = 1 ∨ k = 2 ∨ k = 3) with rfl | rfl | rfl | rfl
    · exact fin _ _ _ _ rows_2_2_0
    · exact fin _ _ _ _ rows_2_2_1
    · exact fin _ _ _ _ rows_2_2_2
    · exact fin _ _ _ _ rows_2_2_3
  · rcases (by omega : k = 0 ∨ k = 1 ∨ k = 2 ∨ k = 3) with rfl | rfl | rfl | rfl
    · exact fin _ _ _ _ rows_3_1_0
    · exact fin _ _ _ _ rows_3_1_1
    · exact fin _ _ _ _ rows_3_1_2
    · exact fin _ _ _ _ rows_3_1_3
  · rcases (by omega : k = 0 ∨ k = 1 ∨ k = 2 ∨ k = 3) with rfl | rfl | rfl | rfl
    · exact fin _ _ _ _ rows_3_2_0
    · exact fin _ _ _ _ rows_3_2_1
    · exact fin _ _ _ _ rows_3_2_2
    · exact fin _ _ _ _ rows_3_2_3
theorem law_true : ∀ ns : List Int, ns.length ≤ 63 → ∃ o, F_law [.val (.list (ns.map PyData.int))] = some (.fz (.bool true), o) := by
  intro ns hn
  suffices h : wO (F_law [.val (.list (ns.map PyData.int))]) fun p => p.1 = .fz (.bool true) by
    obtain ⟨⟨r, o⟩, e, h⟩ := h
    exact ⟨o, by rw [e]; dsimp only at h; rw [h]⟩
  refine wO_fn rfl ?_
  unfold B_law
  simp only [↓wO_some, ↓wO_none, ↓wSl_0, ↓wSl_s, ↓wP_0, ↓wP_s, ↓kW_no, ↓kW_val, ↓kW_own, ↓kW_ov, ↓wO_setSlot, ↓wE_C, ↓kB_val, ↓kB_own, ↓kB_io, ↓wE_B, ↓kV_val, ↓kV_own, ↓wE_V, ↓kM_val, ↓kM_own, ↓wE_M, ↓kF_fz, ↓kF_bw, ↓kF_fr, ↓wE_F, ↓wR_fz, ↓kCt_val, ↓kCt_own, ↓kCt_io, ↓wR_bw, ↓wE_bin, ↓wE_un, ↓wA_nil, ↓kA_fz, ↓kA_bw, ↓kA_fr, ↓wA_cons, ↓wRs_nil, ↓wRs_cons, ↓wE_args, ↓wZ_nil, ↓wZ_cons, ↓kSz_0, ↓kSz_1, ↓kSz_2, ↓kSz_3, ↓kSz_4, ↓kSz_5, ↓kSz_6, ↓kSz_7, ↓kSz_8, ↓wE_tup, ↓wE_lst, ↓kT_bool, ↓wT_tst, ↓wT_and, ↓wT_or, ↓wT_not, ↓wT_yes, ↓wE_bool, ↓wE_if, ↓kAs_val, ↓kAs_own, ↓kAs_io, ↓wAs_nil, ↓wAs_fz, ↓wAs_bw, ↓kOut_nil, ↓kOut_nilr, ↓kPut_own, ↓kPut_io, ↓kOut_one, ↓kOut_oner, ↓wE_call, ↓w_add, ↓w_sub, ↓w_mul, ↓w_mulI, ↓w_fdiv, ↓w_mod, ↓w_neg, ↓w_lt, ↓w_le, ↓w_gt, ↓w_ge, ↓w_eq, ↓w_ne, ↓w_abs, ↓w_min2, ↓w_max2, ↓w_int, ↓w_intb, ↓w_pow, ↓w_lenL, ↓w_lenT, ↓w_ixL, ↓w_ixT, ↓w_tupL, ↓w_tupT, ↓w_listL, ↓w_listT, ↓kS_nx, ↓kS_bk, ↓kS_rt, ↓wS_nx, ↓wS_bk, ↓wS_seq, ↓kSt_fz, ↓kSt_fr, ↓wS_set, ↓kR_fz, ↓kR_fr, ↓wS_ret, ↓wS_retN, ↓wS_drop, ↓wS_if, ↓kAg_val, ↓wS_aug, ↓wG_N, ↓wG_T, ↓wGs_nil, ↓wGs_cons, ↓kIt_L, ↓kIt_T, ↓wI_seq, ↓kG1_i, ↓wI_rg1, ↓kG2_i, ↓wI_rg2, ↓wS_for, ↓wS_while, ↓kAz_fz, ↓wS_asg, ↓kL_nx, ↓kL_bk, ↓kL_rt, ↓wE_comp, ↓wU_nil, ↓wU_io, ↓wU_val, ↓kFn_fz, ↓kFn_fr, ↓kFn_nx, ↓wM_append, ↓wM_pop, ↓wM_rev, ↓wM_ins, ↓wM_popAt, ↓kMt_own, ↓kMt_io, ↓wE_mut, ↓wE_mut0, ↓kSi_i, ↓kSo_fz, ↓wS_store, ↓wE_meth, ↓w_addLL, ↓w_addTT, ↓w_mulLI, ↓w_mulTI, ↓w_inTI, ↓w_inLI, ↓w_inTN, ↓w_inLN, ↓w_sumTI, ↓w_sumLI, ↓w_sumTN, ↓w_sumLN, ↓w_cntTI, ↓w_cntTN, ↓w_cntLI, ↓w_cntLN, ↓kTR1_i, ↓kLR1_i, ↓wE_tupRg1, ↓wE_listRg1, ↓kTR2b_i, ↓kTR2_i, ↓kLR2b_i, ↓kLR2_i, ↓w_isN_none, ↓w_isN_bool, ↓w_isN_int, ↓w_isN_str, ↓w_isN_tuple, ↓w_notN_none, ↓w_notN_bool, ↓w_notN_int, ↓w_notN_str, ↓w_notN_tuple, ↓w_eqb, ↓w_eqLN, ↓w_neLN, ↓w_eqTN, ↓w_neTN, ↓w_neb, ↓w_isB, ↓w_notB, ↓w_revL, ↓w_iadd, ↓kW_oz, ↓kPar_2, ↓wS_par, ↓kCh2_b, ↓kCh_fz, ↓wE_chain, ↓w_gcd, ↓kSS_fz, ↓wE_sortSet, ↓w_sortSetI, ↓w_sortSetN, ↓wX_no, ↓kOI_i, ↓wX_yes, ↓wE_sl, ↓w_slT, ↓w_slL, ↓ats0, ↓ats1, ↓ats2, ↓ats3, ↓w_eqOI, ↓w_neOI, ↓w_eqOO, ↓w_isOI, ↓w_notOI, ↓w_revTL, ↓w_revTT, ↓kAuZ_fz, ↓kAuS_i, ↓wS_augS, ↓kEx_fr, ↓kEx_bw, ↓wS_ext, ↓kOn_fz, ↓wE_onFz, ↓w_ss2T, ↓w_ss2L, ↓w_ss2TN, ↓w_ss2LN, ↓w_lsT, ↓w_lsL, ↓w_srtI, ↓w_srtN, ↓w_srtTI, ↓w_srtTN, ↓w_srtP, ↓kG3_i, ↓wI_rg3, ↓wE_comp2, pl_1, pl_2, wipe_1, wipe_2, unw_1, unw_2, List.getD_cons_zero, List.getD_cons_succ, List.set_cons_zero, List.set_cons_succ, List.cons_append, List.nil_append, List.replicate_succ, List.replicate_zero, Nat.reduceSub, Nat.reduceAdd, Nat.reduceLT, plain_no, plain_val, plain_ov, Int.natCast_zero, Int.ofNat_zero, Int.cast_ofNat_Int, decide_eq_true_eq, decide_eq_false_iff_not, Bool.not_eq_true', Bool.not_eq_false', Bool.not_true, Bool.not_false, if_true, if_false, true_and, and_true, forall_const, decide_true, decide_false, Int.toNat_natCast, Int.reduceEq, Int.reduceNe, Int.reduceLT, Int.reduceLE, Int.zero_add, implies_true, true_implies, not_true_eq_false, not_false_eq_true, false_implies, false_and, and_false, reduceCtorEq, ite_true, ite_false, eq_self, List.length_cons, List.length_nil, oz_own, oz_val, pl_3, pl_4, wipe_3, wipe_4, unw_3, unw_4]
  refine drawsB_spec hn (many := 120) (by decide) fun l0 => ?_
  simp only [↓wO_some, ↓wO_none, ↓wSl_0, ↓wSl_s, ↓wP_0, ↓wP_s, ↓kW_no, ↓kW_val, ↓kW_own, ↓kW_ov, ↓wO_setSlot, ↓wE_C, ↓kB_val, ↓kB_own, ↓kB_io, ↓wE_B, ↓kV_val, ↓kV_own, ↓wE_V, ↓kM_val, ↓kM_own, ↓wE_M, ↓kF_fz, ↓kF_bw, ↓kF_fr, ↓wE_F, ↓wR_fz, ↓kCt_val, ↓kCt_own, ↓kCt_io, ↓wR_bw, ↓wE_bin, ↓wE_un, ↓wA_nil, ↓kA_fz, ↓kA_bw, ↓kA_fr, ↓wA_cons, ↓wRs_nil, ↓wRs_cons, ↓wE_args, ↓wZ_nil, ↓wZ_cons, ↓kSz_0, ↓kSz_1, ↓kSz_2, ↓kSz_3, ↓kSz_4, ↓kSz_5, ↓kSz_6, ↓kSz_7, ↓kSz_8, ↓wE_tup, ↓wE_lst, ↓kT_bool, ↓wT_tst, ↓wT_and, ↓wT_or, ↓wT_not, ↓wT_yes, ↓wE_bool, ↓wE_if, ↓kAs_val, ↓kAs_own, ↓kAs_io, ↓wAs_nil, ↓wAs_fz, ↓wAs_bw, ↓kOut_nil, ↓kOut_nilr, ↓kPut_own, ↓kPut_io, ↓kOut_one, ↓kOut_oner, ↓wE_call, ↓w_add, ↓w_sub, ↓w_mul, ↓w_mulI, ↓w_fdiv, ↓w_mod, ↓w_neg, ↓w_lt, ↓w_le, ↓w_gt, ↓w_ge, ↓w_eq, ↓w_ne, ↓w_abs, ↓w_min2, ↓w_max2, ↓w_int, ↓w_intb, ↓w_pow, ↓w_lenL, ↓w_lenT, ↓w_ixL, ↓w_ixT, ↓w_tupL, ↓w_tupT, ↓w_listL, ↓w_listT, ↓kS_nx, ↓kS_bk, ↓kS_rt, ↓wS_nx, ↓wS_bk, ↓wS_seq, ↓kSt_fz, ↓kSt_fr, ↓wS_set, ↓kR_fz, ↓kR_fr, ↓wS_ret, ↓wS_retN, ↓wS_drop, ↓wS_if, ↓kAg_val, ↓wS_aug, ↓wG_N, ↓wG_T, ↓wGs_nil, ↓wGs_cons, ↓kIt_L, ↓kIt_T, ↓wI_seq, ↓kG1_i, ↓wI_rg1, ↓kG2_i, ↓wI_rg2, ↓wS_for, ↓wS_while, ↓kAz_fz, ↓wS_asg, ↓kL_nx, ↓kL_bk, ↓kL_rt, ↓wE_comp, ↓wU_nil, ↓wU_io, ↓wU_val, ↓kFn_fz, ↓kFn_fr, ↓kFn_nx, ↓wM_append, ↓wM_pop, ↓wM_rev, ↓wM_ins, ↓wM_popAt, ↓kMt_own, ↓kMt_io, ↓wE_mut, ↓wE_mut0, ↓kSi_i, ↓kSo_fz, ↓wS_store, ↓wE_meth, ↓w_addLL, ↓w_addTT, ↓w_mulLI, ↓w_mulTI, ↓w_inTI, ↓w_inLI, ↓w_inTN, ↓w_inLN, ↓w_sumTI, ↓w_sumLI, ↓w_sumTN, ↓w_sumLN, ↓w_cntTI, ↓w_cntTN, ↓w_cntLI, ↓w_cntLN, ↓kTR1_i, ↓kLR1_i, ↓wE_tupRg1, ↓wE_listRg1, ↓kTR2b_i, ↓kTR2_i, ↓kLR2b_i, ↓kLR2_i, ↓w_isN_none, ↓w_isN_bool, ↓w_isN_int, ↓w_isN_str, ↓w_isN_tuple, ↓w_notN_none, ↓w_notN_bool, ↓w_notN_int, ↓w_notN_str, ↓w_notN_tuple, ↓w_eqb, ↓w_eqLN, ↓w_neLN, ↓w_eqTN, ↓w_neTN, ↓w_neb, ↓w_isB, ↓w_notB, ↓w_revL, ↓w_iadd, ↓kW_oz, ↓kPar_2, ↓wS_par, ↓kCh2_b, ↓kCh_fz, ↓wE_chain, ↓w_gcd, ↓kSS_fz, ↓wE_sortSet, ↓w_sortSetI, ↓w_sortSetN, ↓wX_no, ↓kOI_i, ↓wX_yes, ↓wE_sl, ↓w_slT, ↓w_slL, ↓ats0, ↓ats1, ↓ats2, ↓ats3, ↓w_eqOI, ↓w_neOI, ↓w_eqOO, ↓w_isOI, ↓w_notOI, ↓w_revTL, ↓w_revTT, ↓kAuZ_fz, ↓kAuS_i, ↓wS_augS, ↓kEx_fr, ↓kEx_bw, ↓wS_ext, ↓kOn_fz, ↓wE_onFz, ↓w_ss2T, ↓w_ss2L, ↓w_ss2TN, ↓w_ss2LN, ↓w_lsT, ↓w_lsL, ↓w_srtI, ↓w_srtN, ↓w_srtTI, ↓w_srtTN, ↓w_srtP, ↓kG3_i, ↓wI_rg3, ↓wE_comp2, pl_1, pl_2, wipe_1, wipe_2, unw_1, unw_2, List.getD_cons_zero, List.getD_cons_succ, List.set_cons_zero, List.set_cons_succ, List.cons_append, List.nil_append, List.replicate_succ, List.replicate_zero, Nat.reduceSub, Nat.reduceAdd, Nat.reduceLT, plain_no, plain_val, plain_ov, Int.natCast_zero, Int.ofNat_zero, Int.cast_ofNat_Int, decide_eq_true_eq, decide_eq_false_iff_not, Bool.not_eq_true', Bool.not_eq_false', Bool.not_true, Bool.not_false, if_true, if_false, true_and, and_true, forall_const, decide_true, decide_false, Int.toNat_natCast, Int.reduceEq, Int.reduceNe, Int.reduceLT, Int.reduceLE, Int.zero_add, implies_true, true_implies, not_true_eq_false, not_false_eq_true, false_implies, false_and, and_false, reduceCtorEq, ite_true, ite_false, eq_self, List.length_cons, List.length_nil, oz_own, oz_val, pl_3, pl_4, wipe_3, wipe_4, unw_3, unw_4]
  refine wL_range (fun k ρ => ∃ (l' : Dr) (o2 o3 o4 : Option D), ρ = [.val (.list (ns.map PyData.int)), .own l'.d, ov o2, ov o3, ov o4]) ⟨l0, none, none, none, rfl⟩ ?_ ?_
  · rintro i _ hi ⟨l', o2, o3, o4, rfl⟩
    simp only [↓wO_some, ↓wO_none, ↓wSl_0, ↓wSl_s, ↓wP_0, ↓wP_s, ↓kW_no, ↓kW_val, ↓kW_own, ↓kW_ov, ↓wO_setSlot, ↓wE_C, ↓kB_val, ↓kB_own, ↓kB_io, ↓wE_B, ↓kV_val, ↓kV_own, ↓wE_V, ↓kM_val, ↓kM_own, ↓wE_M, ↓kF_fz, ↓kF_bw, ↓kF_fr, ↓wE_F, ↓wR_fz, ↓kCt_val, ↓kCt_own, ↓kCt_io, ↓wR_bw, ↓wE_bin, ↓wE_un, ↓wA_nil, ↓kA_fz, ↓kA_bw, ↓kA_fr, ↓wA_cons, ↓wRs_nil, ↓wRs_cons, ↓wE_args, ↓wZ_nil, ↓wZ_cons, ↓kSz_0, ↓kSz_1, ↓kSz_2, ↓kSz_3, ↓kSz_4, ↓kSz_5, ↓kSz_6, ↓kSz_7, ↓kSz_8, ↓wE_tup, ↓wE_lst, ↓kT_bool, ↓wT_tst, ↓wT_and, ↓wT_or, ↓wT_not, ↓wT_yes, ↓wE_bool, ↓wE_if, ↓kAs_val, ↓kAs_own, ↓kAs_io, ↓wAs_nil, ↓wAs_fz, ↓wAs_bw, ↓kOut_nil, ↓kOut_nilr, ↓kPut_own, ↓kPut_io, ↓kOut_one, ↓kOut_oner, ↓wE_call, ↓w_add, ↓w_sub, ↓w_mul, ↓w_mulI, ↓w_fdiv, ↓w_mod, ↓w_neg, ↓w_lt, ↓w_le, ↓w_gt, ↓w_ge, ↓w_eq, ↓w_ne, ↓w_abs, ↓w_min2, ↓w_max2, ↓w_int, ↓w_intb, ↓w_pow, ↓w_lenL, ↓w_lenT, ↓w_ixL, ↓w_ixT, ↓w_tupL, ↓w_tupT, ↓w_listL, ↓w_listT, ↓kS_nx, ↓kS_bk, ↓kS_rt, ↓wS_nx, ↓wS_bk, ↓wS_seq, ↓kSt_fz, ↓kSt_fr, ↓wS_set, ↓kR_fz, ↓kR_fr, ↓wS_ret, ↓wS_retN, ↓wS_drop, ↓wS_if, ↓kAg_val, ↓wS_aug, ↓wG_N, ↓wG_T, ↓wGs_nil, ↓wGs_cons, ↓kIt_L, ↓kIt_T, ↓wI_seq, ↓kG1_i, ↓wI_rg1, ↓kG2_i, ↓wI_rg2, ↓wS_for, ↓wS_while, ↓kAz_fz, ↓wS_asg, ↓kL_nx, ↓kL_bk, ↓kL_rt, ↓wE_comp, ↓wU_nil, ↓wU_io, ↓wU_val, ↓kFn_fz, ↓kFn_fr, ↓kFn_nx, ↓wM_append, ↓wM_pop, ↓wM_rev, ↓wM_ins, ↓wM_popAt, ↓kMt_own, ↓kMt_io, ↓wE_mut, ↓wE_mut0, ↓kSi_i, ↓kSo_fz, ↓wS_store, ↓wE_meth, ↓w_addLL, ↓w_addTT, ↓w_mulLI, ↓w_mulTI, ↓w_inTI, ↓w_inLI, ↓w_inTN, ↓w_inLN, ↓w_sumTI, ↓w_sumLI, ↓w_sumTN, ↓w_sumLN, ↓w_cntTI, ↓w_cntTN, ↓w_cntLI, ↓w_cntLN, ↓kTR1_i, ↓kLR1_i, ↓wE_tupRg1, ↓wE_listRg1, ↓kTR2b_i, ↓kTR2_i, ↓kLR2b_i, ↓kLR2_i, ↓w_isN_none, ↓w_isN_bool, ↓w_isN_int, ↓w_isN_str, ↓w_isN_tuple, ↓w_notN_none, ↓w_notN_bool, ↓w_notN_int, ↓w_notN_str, ↓w_notN_tuple, ↓w_eqb, ↓w_eqLN, ↓w_neLN, ↓w_eqTN, ↓w_neTN, ↓w_neb, ↓w_isB, ↓w_notB, ↓w_revL, ↓w_iadd, ↓kW_oz, ↓kPar_2, ↓wS_par, ↓kCh2_b, ↓kCh_fz, ↓wE_chain, ↓w_gcd, ↓kSS_fz, ↓wE_sortSet, ↓w_sortSetI, ↓w_sortSetN, ↓wX_no, ↓kOI_i, ↓wX_yes, ↓wE_sl, ↓w_slT, ↓w_slL, ↓ats0, ↓ats1, ↓ats2, ↓ats3, ↓w_eqOI, ↓w_neOI, ↓w_eqOO, ↓w_isOI, ↓w_notOI, ↓w_revTL, ↓w_revTT, ↓kAuZ_fz, ↓kAuS_i, ↓wS_augS, ↓kEx_fr, ↓kEx_bw, ↓wS_ext, ↓kOn_fz, ↓wE_onFz, ↓w_ss2T, ↓w_ss2L, ↓w_ss2TN, ↓w_ss2LN, ↓w_lsT, ↓w_lsL, ↓w_srtI, ↓w_srtN, ↓w_srtTI, ↓w_srtTN, ↓w_srtP, ↓kG3_i, ↓wI_rg3, ↓wE_comp2, pl_1, pl_2, wipe_1, wipe_2, unw_1, unw_2, List.getD_cons_zero, List.getD_cons_succ, List.set_cons_zero, List.set_cons_succ, List.cons_append, List.nil_append, List.replicate_succ, List.replicate_zero, Nat.reduceSub, Nat.reduceAdd, Nat.reduceLT, plain_no, plain_val, plain_ov, Int.natCast_zero, Int.ofNat_zero, Int.cast_ofNat_Int, decide_eq_true_eq, decide_eq_false_iff_not, Bool.not_eq_true', Bool.not_eq_false', Bool.not_true, Bool.not_false, if_true, if_false, true_and, and_true, forall_const, decide_true, decide_false, Int.toNat_natCast, Int.reduceEq, Int.reduceNe, Int.reduceLT, Int.reduceLE, Int.zero_add, implies_true, true_implies, not_true_eq_false, not_false_eq_true, false_implies, false_and, and_false, reduceCtorEq, ite_true, ite_false, eq_self, List.length_cons, List.length_nil, oz_own, oz_val, pl_3, pl_4, wipe_3, wipe_4, unw_3, unw_4]
    refine take_spec (by decide) fun r1 l1 r10 r11 => ?_
    obtain ⟨c, hc, hc1, hc6⟩ : ∃ c : Nat, 2 + r1 = c ∧ 2 ≤ c ∧ c ≤ 6 := ⟨(2 + r1).toNat, by omega, by omega, by omega⟩
    have e48 : Int.fdiv 48 (c : Int) = ((48 / c : Nat) : Int) := fdiv_nat 48 c
    simp only [↓wO_some, ↓wO_none, ↓wSl_0, ↓wSl_s, ↓wP_0, ↓wP_s, ↓kW_no, ↓kW_val, ↓kW_own, ↓kW_ov, ↓wO_setSlot, ↓wE_C, ↓kB_val, ↓kB_own, ↓kB_io, ↓wE_B, ↓kV_val, ↓kV_own, ↓wE_V, ↓kM_val, ↓kM_own, ↓wE_M, ↓kF_fz, ↓kF_bw, ↓kF_fr, ↓wE_F, ↓wR_fz, ↓kCt_val, ↓kCt_own, ↓kCt_io, ↓wR_bw, ↓wE_bin, ↓wE_un, ↓wA_nil, ↓kA_fz, ↓kA_bw, ↓kA_fr, ↓wA_cons, ↓wRs_nil, ↓wRs_cons, ↓wE_args, ↓wZ_nil, ↓wZ_cons, ↓kSz_0, ↓kSz_1, ↓kSz_2, ↓kSz_3, ↓kSz_4, ↓kSz_5, ↓kSz_6, ↓kSz_7, ↓kSz_8, ↓wE_tup, ↓wE_lst, ↓kT_bool, ↓wT_tst, ↓wT_and, ↓wT_or, ↓wT_not, ↓wT_yes, ↓wE_bool, ↓wE_if, ↓kAs_val, ↓kAs_own, ↓kAs_io, ↓wAs_nil, ↓wAs_fz, ↓wAs_bw, ↓kOut_nil, ↓kOut_nilr, ↓kPut_own, ↓kPut_io, ↓kOut_one, ↓kOut_oner, ↓wE_call, ↓w_add, ↓w_sub, ↓w_mul, ↓w_mulI, ↓w_fdiv, ↓w_mod, ↓w_neg, ↓w_lt, ↓w_le, ↓w_gt, ↓w_ge, ↓w_eq, ↓w_ne, ↓w_abs, ↓w_min2, ↓w_max2, ↓w_int, ↓w_intb, ↓w_pow, ↓w_lenL, ↓w_lenT, ↓w_ixL, ↓w_ixT, ↓w_tupL, ↓w_tupT, ↓w_listL, ↓w_listT, ↓kS_nx, ↓kS_bk, ↓kS_rt, ↓wS_nx, ↓wS_bk, ↓wS_seq, ↓kSt_fz, ↓kSt_fr, ↓wS_set, ↓kR_fz, ↓kR_fr, ↓wS_ret, ↓wS_retN, ↓wS_drop, ↓wS_if, ↓kAg_val, ↓wS_aug, ↓wG_N, ↓wG_T, ↓wGs_nil, ↓wGs_cons, ↓kIt_L, ↓kIt_T, ↓wI_seq, ↓kG1_i, ↓wI_rg1, ↓kG2_i, ↓wI_rg2, ↓wS_for, ↓wS_while, ↓kAz_fz, ↓wS_asg, ↓kL_nx, ↓kL_bk, ↓kL_rt, ↓wE_comp, ↓wU_nil, ↓wU_io, ↓wU_val, ↓kFn_fz, ↓kFn_fr, ↓kFn_nx, ↓wM_append, ↓wM_pop, ↓wM_rev, ↓wM_ins, ↓wM_popAt, ↓kMt_own, ↓kMt_io, ↓wE_mut, ↓wE_mut0, ↓kSi_i, ↓kSo_fz, ↓wS_store, ↓wE_meth, ↓w_addLL, ↓w_addTT, ↓w_mulLI, ↓w_mulTI, ↓w_inTI, ↓w_inLI, ↓w_inTN, ↓w_inLN, ↓w_sumTI, ↓w_sumLI, ↓w_sumTN, ↓w_sumLN, ↓w_cntTI, ↓w_cntTN, ↓w_cntLI, ↓w_cntLN, ↓kTR1_i, ↓kLR1_i, ↓wE_tupRg1, ↓wE_listRg1, ↓kTR2b_i, ↓kTR2_i, ↓kLR2b_i, ↓kLR2_i, ↓w_isN_none, ↓w_isN_bool, ↓w_isN_int, ↓w_isN_str, ↓w_isN_tuple, ↓w_notN_none, ↓w_notN_bool, ↓w_notN_int, ↓w_notN_str, ↓w_notN_tuple, ↓w_eqb, ↓w_eqLN, ↓w_neLN, ↓w_eqTN, ↓w_neTN, ↓w_neb, ↓w_isB, ↓w_notB, ↓w_revL, ↓w_iadd, ↓kW_oz, ↓kPar_2, ↓wS_par, ↓kCh2_b, ↓kCh_fz, ↓wE_chain, ↓w_gcd, ↓kSS_fz, ↓wE_sortSet, ↓w_sortSetI, ↓w_sortSetN, ↓wX_no, ↓kOI_i, ↓wX_yes, ↓wE_sl, ↓w_slT, ↓w_slL, ↓ats0, ↓ats1, ↓ats2, ↓ats3, ↓w_eqOI, ↓w_neOI, ↓w_eqOO, ↓w_isOI, ↓w_notOI, ↓w_revTL, ↓w_revTT, ↓kAuZ_fz, ↓kAuS_i, ↓wS_augS, ↓kEx_fr, ↓kEx_bw, ↓wS_ext, ↓kOn_fz, ↓wE_onFz, ↓w_ss2T, ↓w_ss2L, ↓w_ss2TN, ↓w_ss2LN, ↓w_lsT, ↓w_lsL, ↓w_srtI, ↓w_srtN, ↓w_srtTI, ↓w_srtTN, ↓w_srtP, ↓kG3_i, ↓wI_rg3, ↓wE_comp2, pl_1, pl_2, wipe_1, wipe_2, unw_1, unw_2, List.getD_cons_zero, List.getD_cons_succ, List.set_cons_zero, List.set_cons_succ, List.cons_append, List.nil_append, List.replicate_succ, List.replicate_zero, Nat.reduceSub, Nat.reduceAdd, Nat.reduceLT, plain_no, plain_val, plain_ov, Int.natCast_zero, Int.ofNat_zero, Int.cast_ofNat_Int, decide_eq_true_eq, decide_eq_false_iff_not, Bool.not_eq_true', Bool.not_eq_false', Bool.not_true, Bool.not_false, if_true, if_false, true_and, and_true, forall_const, decide_true, decide_false, Int.toNat_natCast, Int.reduceEq, Int.reduceNe, Int.reduceLT, Int.reduceLE, Int.zero_add, implies_true, true_implies, not_true_eq_false, not_false_eq_true, false_implies, false_and, and_false, reduceCtorEq, ite_true, ite_false, eq_self, List.length_cons, List.length_nil, oz_own, oz_val, pl_3, pl_4, wipe_3, wipe_4, unw_3, unw_4, hc, dk (show 1 ≤ c by omega) (by omega), e48]
    have hq : 1 ≤ 48 / c := (Nat.one_le_div_iff (by omega)).mpr (by omega)
    refine take_spec (by omega) fun r2 l2 r20 r21 => ?_
    obtain ⟨m, hm, hm1, hm2⟩ : ∃ m : Nat, 1 + r2 = m ∧ 1 ≤ m ∧ m ≤ 48 / c := ⟨(1 + r2).toNat, by omega, by omega, by omega⟩
    have hcm : c * m ≤ 48 := Nat.le_trans (Nat.mul_le_mul_left c hm2) (Nat.mul_div_le 48 c)
    have hmm : mulOk (c : Int) (m : Int) = true := mulOk_of (.inl (by omega))
    have e1 : (c : Int) * m = ((c * m : Nat) : Int) := by push_cast; rfl
    simp only [↓wO_some, ↓wO_none, ↓wSl_0, ↓wSl_s, ↓wP_0, ↓wP_s, ↓kW_no, ↓kW_val, ↓kW_own, ↓kW_ov, ↓wO_setSlot, ↓wE_C, ↓kB_val, ↓kB_own, ↓kB_io, ↓wE_B, ↓kV_val, ↓kV_own, ↓wE_V, ↓kM_val, ↓kM_own, ↓wE_M, ↓kF_fz, ↓kF_bw, ↓kF_fr, ↓wE_F, ↓wR_fz, ↓kCt_val, ↓kCt_own, ↓kCt_io, ↓wR_bw, ↓wE_bin, ↓wE_un, ↓wA_nil, ↓kA_fz, ↓kA_bw, ↓kA_fr, ↓wA_cons, ↓wRs_nil, ↓wRs_cons, ↓wE_args, ↓wZ_nil, ↓wZ_cons, ↓kSz_0, ↓kSz_1, ↓kSz_2, ↓kSz_3, ↓kSz_4, ↓kSz_5, ↓kSz_6, ↓kSz_7, ↓kSz_8, ↓wE_tup, ↓wE_lst, ↓kT_bool, ↓wT_tst, ↓wT_and, ↓wT_or, ↓wT_not, ↓wT_yes, ↓wE_bool, ↓wE_if, ↓kAs_val, ↓kAs_own, ↓kAs_io, ↓wAs_nil, ↓wAs_fz, ↓wAs_bw, ↓kOut_nil, ↓kOut_nilr, ↓kPut_own, ↓kPut_io, ↓kOut_one, ↓kOut_oner, ↓wE_call, ↓w_add, ↓w_sub, ↓w_mul, ↓w_mulI, ↓w_fdiv, ↓w_mod, ↓w_neg, ↓w_lt, ↓w_le, ↓w_gt, ↓w_ge, ↓w_eq, ↓w_ne, ↓w_abs, ↓w_min2, ↓w_max2, ↓w_int, ↓w_intb, ↓w_pow, ↓w_lenL, ↓w_lenT, ↓w_ixL, ↓w_ixT, ↓w_tupL, ↓w_tupT, ↓w_listL, ↓w_listT, ↓kS_nx, ↓kS_bk, ↓kS_rt, ↓wS_nx, ↓wS_bk, ↓wS_seq, ↓kSt_fz, ↓kSt_fr, ↓wS_set, ↓kR_fz, ↓kR_fr, ↓wS_ret, ↓wS_retN, ↓wS_drop, ↓wS_if, ↓kAg_val, ↓wS_aug, ↓wG_N, ↓wG_T, ↓wGs_nil, ↓wGs_cons, ↓kIt_L, ↓kIt_T, ↓wI_seq, ↓kG1_i, ↓wI_rg1, ↓kG2_i, ↓wI_rg2, ↓wS_for, ↓wS_while, ↓kAz_fz, ↓wS_asg, ↓kL_nx, ↓kL_bk, ↓kL_rt, ↓wE_comp, ↓wU_nil, ↓wU_io, ↓wU_val, ↓kFn_fz, ↓kFn_fr, ↓kFn_nx, ↓wM_append, ↓wM_pop, ↓wM_rev, ↓wM_ins, ↓wM_popAt, ↓kMt_own, ↓kMt_io, ↓wE_mut, ↓wE_mut0, ↓kSi_i, ↓kSo_fz, ↓wS_store, ↓wE_meth, ↓w_addLL, ↓w_addTT, ↓w_mulLI, ↓w_mulTI, ↓w_inTI, ↓w_inLI, ↓w_inTN, ↓w_inLN, ↓w_sumTI, ↓w_sumLI, ↓w_sumTN, ↓w_sumLN, ↓w_cntTI, ↓w_cntTN, ↓w_cntLI, ↓w_cntLN, ↓kTR1_i, ↓kLR1_i, ↓wE_tupRg1, ↓wE_listRg1, ↓kTR2b_i, ↓kTR2_i, ↓kLR2b_i, ↓kLR2_i, ↓w_isN_none, ↓w_isN_bool, ↓w_isN_int, ↓w_isN_str, ↓w_isN_tuple, ↓w_notN_none, ↓w_notN_bool, ↓w_notN_int, ↓w_notN_str, ↓w_notN_tuple, ↓w_eqb, ↓w_eqLN, ↓w_neLN, ↓w_eqTN, ↓w_neTN, ↓w_neb, ↓w_isB, ↓w_notB, ↓w_revL, ↓w_iadd, ↓kW_oz, ↓kPar_2, ↓wS_par, ↓kCh2_b, ↓kCh_fz, ↓wE_chain, ↓w_gcd, ↓kSS_fz, ↓wE_sortSet, ↓w_sortSetI, ↓w_sortSetN, ↓wX_no, ↓kOI_i, ↓wX_yes, ↓wE_sl, ↓w_slT, ↓w_slL, ↓ats0, ↓ats1, ↓ats2, ↓ats3, ↓w_eqOI, ↓w_neOI, ↓w_eqOO, ↓w_isOI, ↓w_notOI, ↓w_revTL, ↓w_revTT, ↓kAuZ_fz, ↓kAuS_i, ↓wS_augS, ↓kEx_fr, ↓kEx_bw, ↓wS_ext, ↓kOn_fz, ↓wE_onFz, ↓w_ss2T, ↓w_ss2L, ↓w_ss2TN, ↓w_ss2LN, ↓w_lsT, ↓w_lsL, ↓w_srtI, ↓w_srtN, ↓w_srtTI, ↓w_srtTN, ↓w_srtP, ↓kG3_i, ↓wI_rg3, ↓wE_comp2, pl_1, pl_2, wipe_1, wipe_2, unw_1, unw_2, List.getD_cons_zero, List.getD_cons_succ, List.set_cons_zero, List.set_cons_succ, List.cons_append, List.nil_append, List.replicate_succ, List.replicate_zero, Nat.reduceSub, Nat.reduceAdd, Nat.reduceLT, plain_no, plain_val, plain_ov, Int.natCast_zero, Int.ofNat_zero, Int.cast_ofNat_Int, decide_eq_true_eq, decide_eq_false_iff_not, Bool.not_eq_true', Bool.not_eq_false', Bool.not_true, Bool.not_false, if_true, if_false, true_and, and_true, forall_const, decide_true, decide_false, Int.toNat_natCast, Int.reduceEq, Int.reduceNe, Int.reduceLT, Int.reduceLE, Int.zero_add, implies_true, true_implies, not_true_eq_false, not_false_eq_true, false_implies, false_and, and_false, reduceCtorEq, ite_true, ite_false, eq_self, List.length_cons, List.length_nil, oz_own, oz_val, pl_3, pl_4, wipe_3, wipe_4, unw_3, unw_4, hm, hmm, e1]
    refine take_spec (by omega) fun r3 l3 r30 r31 => ?_
    obtain ⟨k, rfl⟩ : ∃ k : Nat, r3 = k := ⟨r3.toNat, by omega⟩
    simp only [↓wO_some, ↓wO_none, ↓wSl_0, ↓wSl_s, ↓wP_0, ↓wP_s, ↓kW_no, ↓kW_val, ↓kW_own, ↓kW_ov, ↓wO_setSlot, ↓wE_C, ↓kB_val, ↓kB_own, ↓kB_io, ↓wE_B, ↓kV_val, ↓kV_own, ↓wE_V, ↓kM_val, ↓kM_own, ↓wE_M, ↓kF_fz, ↓kF_bw, ↓kF_fr, ↓wE_F, ↓wR_fz, ↓kCt_val, ↓kCt_own, ↓kCt_io, ↓wR_bw, ↓wE_bin, ↓wE_un, ↓wA_nil, ↓kA_fz, ↓kA_bw, ↓kA_fr, ↓wA_cons, ↓wRs_nil, ↓wRs_cons, ↓wE_args, ↓wZ_nil, ↓wZ_cons, ↓kSz_0, ↓kSz_1, ↓kSz_2, ↓kSz_3, ↓kSz_4, ↓kSz_5, ↓kSz_6, ↓kSz_7, ↓kSz_8, ↓wE_tup, ↓wE_lst, ↓kT_bool, ↓wT_tst, ↓wT_and, ↓wT_or, ↓wT_not, ↓wT_yes, ↓wE_bool, ↓wE_if, ↓kAs_val, ↓kAs_own, ↓kAs_io, ↓wAs_nil, ↓wAs_fz, ↓wAs_bw, ↓kOut_nil, ↓kOut_nilr, ↓kPut_own, ↓kPut_io, ↓kOut_one, ↓kOut_oner, ↓wE_call, ↓w_add, ↓w_sub, ↓w_mul, ↓w_mulI, ↓w_fdiv, ↓w_mod, ↓w_neg, ↓w_lt, ↓w_le, ↓w_gt, ↓w_ge, ↓w_eq, ↓w_ne, ↓w_abs, ↓w_min2, ↓w_max2, ↓w_int, ↓w_intb, ↓w_pow, ↓w_lenL, ↓w_lenT, ↓w_ixL, ↓w_ixT, ↓w_tupL, ↓w_tupT, ↓w_listL, ↓w_listT, ↓kS_nx, ↓kS_bk, ↓kS_rt, ↓wS_nx, ↓wS_bk, ↓wS_seq, ↓kSt_fz, ↓kSt_fr, ↓wS_set, ↓kR_fz, ↓kR_fr, ↓wS_ret, ↓wS_retN, ↓wS_drop, ↓wS_if, ↓kAg_val, ↓wS_aug, ↓wG_N, ↓wG_T, ↓wGs_nil, ↓wGs_cons, ↓kIt_L, ↓kIt_T, ↓wI_seq, ↓kG1_i, ↓wI_rg1, ↓kG2_i, ↓wI_rg2, ↓wS_for, ↓wS_while, ↓kAz_fz, ↓wS_asg, ↓kL_nx, ↓kL_bk, ↓kL_rt, ↓wE_comp, ↓wU_nil, ↓wU_io, ↓wU_val, ↓kFn_fz, ↓kFn_fr, ↓kFn_nx, ↓wM_append, ↓wM_pop, ↓wM_rev, ↓wM_ins, ↓wM_popAt, ↓kMt_own, ↓kMt_io, ↓wE_mut, ↓wE_mut0, ↓kSi_i, ↓kSo_fz, ↓wS_store, ↓wE_meth, ↓w_addLL, ↓w_addTT, ↓w_mulLI, ↓w_mulTI, ↓w_inTI, ↓w_inLI, ↓w_inTN, ↓w_inLN, ↓w_sumTI, ↓w_sumLI, ↓w_sumTN, ↓w_sumLN, ↓w_cntTI, ↓w_cntTN, ↓w_cntLI, ↓w_cntLN, ↓kTR1_i, ↓kLR1_i, ↓wE_tupRg1, ↓wE_listRg1, ↓kTR2b_i, ↓kTR2_i, ↓kLR2b_i, ↓kLR2_i, ↓w_isN_none, ↓w_isN_bool, ↓w_isN_int, ↓w_isN_str, ↓w_isN_tuple, ↓w_notN_none, ↓w_notN_bool, ↓w_notN_int, ↓w_notN_str, ↓w_notN_tuple, ↓w_eqb, ↓w_eqLN, ↓w_neLN, ↓w_eqTN, ↓w_neTN, ↓w_neb, ↓w_isB, ↓w_notB, ↓w_revL, ↓w_iadd, ↓kW_oz, ↓kPar_2, ↓wS_par, ↓kCh2_b, ↓kCh_fz, ↓wE_chain, ↓w_gcd, ↓kSS_fz, ↓wE_sortSet, ↓w_sortSetI, ↓w_sortSetN, ↓wX_no, ↓kOI_i, ↓wX_yes, ↓wE_sl, ↓w_slT, ↓w_slL, ↓ats0, ↓ats1, ↓ats2, ↓ats3, ↓w_eqOI, ↓w_neOI, ↓w_eqOO, ↓w_isOI, ↓w_notOI, ↓w_revTL, ↓w_revTT, ↓kAuZ_fz, ↓kAuS_i, ↓wS_augS, ↓kEx_fr, ↓kEx_bw, ↓wS_ext, ↓kOn_fz, ↓wE_onFz, ↓w_ss2T, ↓w_ss2L, ↓w_ss2TN, ↓w_ss2LN, ↓w_lsT, ↓w_lsL, ↓w_srtI, ↓w_srtN, ↓w_srtTI, ↓w_srtTN, ↓w_srtP, ↓kG3_i, ↓wI_rg3, ↓wE_comp2, pl_1, pl_2, wipe_1, wipe_2, unw_1, unw_2, List.getD_cons_zero, List.getD_cons_succ, List.set_cons_zero, List.set_cons_succ, List.cons_append, List.nil_append, List.replicate_succ, List.replicate_zero, Nat.reduceSub, Nat.reduceAdd, Nat.reduceLT, plain_no, plain_val, plain_ov, Int.natCast_zero, Int.ofNat_zero, Int.cast_ofNat_Int, decide_eq_true_eq, decide_eq_false_iff_not, Bool.not_eq_true', Bool.not_eq_false', Bool.not_true, Bool.not_false, if_true, if_false, true_and, and_true, forall_const, decide_true, decide_false, Int.toNat_natCast, Int.reduceEq, Int.reduceNe, Int.reduceLT, Int.reduceLE, Int.zero_add, implies_true, true_implies, not_true_eq_false, not_false_eq_true, false_implies, false_and, and_false, reduceCtorEq, ite_true, ite_false, eq_self, List.length_cons, List.length_nil, oz_own, oz_val, pl_3, pl_4, wipe_3, wipe_4, unw_3, unw_4, chances_right c m k hc1 hc6 hm1 hcm (by omega)]
    refine needed_right c m hc1 hc6 hm1 hcm fun l4 => ?_
    simp only [↓wO_some, ↓wO_none, ↓wSl_0, ↓wSl_s, ↓wP_0, ↓wP_s, ↓kW_no, ↓kW_val, ↓kW_own, ↓kW_ov, ↓wO_setSlot, ↓wE_C, ↓kB_val, ↓kB_own, ↓kB_io, ↓wE_B, ↓kV_val, ↓kV_own, ↓wE_V, ↓kM_val, ↓kM_own, ↓wE_M, ↓kF_fz, ↓kF_bw, ↓kF_fr, ↓wE_F, ↓wR_fz, ↓kCt_val, ↓kCt_own, ↓kCt_io, ↓wR_bw, ↓wE_bin, ↓wE_un, ↓wA_nil, ↓kA_fz, ↓kA_bw, ↓kA_fr, ↓wA_cons, ↓wRs_nil, ↓wRs_cons, ↓wE_args, ↓wZ_nil, ↓wZ_cons, ↓kSz_0, ↓kSz_1, ↓kSz_2, ↓kSz_3, ↓kSz_4, ↓kSz_5, ↓kSz_6, ↓kSz_7, ↓kSz_8, ↓wE_tup, ↓wE_lst, ↓kT_bool, ↓wT_tst, ↓wT_and, ↓wT_or, ↓wT_not, ↓wT_yes, ↓wE_bool, ↓wE_if, ↓kAs_val, ↓kAs_own, ↓kAs_io, ↓wAs_nil, ↓wAs_fz, ↓wAs_bw, ↓kOut_nil, ↓kOut_nilr, ↓kPut_own, ↓kPut_io, ↓kOut_one, ↓kOut_oner, ↓wE_call, ↓w_add, ↓w_sub, ↓w_mul, ↓w_mulI, ↓w_fdiv, ↓w_mod, ↓w_neg, ↓w_lt, ↓w_le, ↓w_gt, ↓w_ge, ↓w_eq, ↓w_ne, ↓w_abs, ↓w_min2, ↓w_max2, ↓w_int, ↓w_intb, ↓w_pow, ↓w_lenL, ↓w_lenT, ↓w_ixL, ↓w_ixT, ↓w_tupL, ↓w_tupT, ↓w_listL, ↓w_listT, ↓kS_nx, ↓kS_bk, ↓kS_rt, ↓wS_nx, ↓wS_bk, ↓wS_seq, ↓kSt_fz, ↓kSt_fr, ↓wS_set, ↓kR_fz, ↓kR_fr, ↓wS_ret, ↓wS_retN, ↓wS_drop, ↓wS_if, ↓kAg_val, ↓wS_aug, ↓wG_N, ↓wG_T, ↓wGs_nil, ↓wGs_cons, ↓kIt_L, ↓kIt_T, ↓wI_seq, ↓kG1_i, ↓wI_rg1, ↓kG2_i, ↓wI_rg2, ↓wS_for, ↓wS_while, ↓kAz_fz, ↓wS_asg, ↓kL_nx, ↓kL_bk, ↓kL_rt, ↓wE_comp, ↓wU_nil, ↓wU_io, ↓wU_val, ↓kFn_fz, ↓kFn_fr, ↓kFn_nx, ↓wM_append, ↓wM_pop, ↓wM_rev, ↓wM_ins, ↓wM_popAt, ↓kMt_own, ↓kMt_io, ↓wE_mut, ↓wE_mut0, ↓kSi_i, ↓kSo_fz, ↓wS_store, ↓wE_meth, ↓w_addLL, ↓w_addTT, ↓w_mulLI, ↓w_mulTI, ↓w_inTI, ↓w_inLI, ↓w_inTN, ↓w_inLN, ↓w_sumTI, ↓w_sumLI, ↓w_sumTN, ↓w_sumLN, ↓w_cntTI, ↓w_cntTN, ↓w_cntLI, ↓w_cntLN, ↓kTR1_i, ↓kLR1_i, ↓wE_tupRg1, ↓wE_listRg1, ↓kTR2b_i, ↓kTR2_i, ↓kLR2b_i, ↓kLR2_i, ↓w_isN_none, ↓w_isN_bool, ↓w_isN_int, ↓w_isN_str, ↓w_isN_tuple, ↓w_notN_none, ↓w_notN_bool, ↓w_notN_int, ↓w_notN_str, ↓w_notN_tuple, ↓w_eqb, ↓w_eqLN, ↓w_neLN, ↓w_eqTN, ↓w_neTN, ↓w_neb, ↓w_isB, ↓w_notB, ↓w_revL, ↓w_iadd, ↓kW_oz, ↓kPar_2, ↓wS_par, ↓kCh2_b, ↓kCh_fz, ↓wE_chain, ↓w_gcd, ↓kSS_fz, ↓wE_sortSet, ↓w_sortSetI, ↓w_sortSetN, ↓wX_no, ↓kOI_i, ↓wX_yes, ↓wE_sl, ↓w_slT, ↓w_slL, ↓ats0, ↓ats1, ↓ats2, ↓ats3, ↓w_eqOI, ↓w_neOI, ↓w_eqOO, ↓w_isOI, ↓w_notOI, ↓w_revTL, ↓w_revTT, ↓kAuZ_fz, ↓kAuS_i, ↓wS_augS, ↓kEx_fr, ↓kEx_bw, ↓wS_ext, ↓kOn_fz, ↓wE_onFz, ↓w_ss2T, ↓w_ss2L, ↓w_ss2TN, ↓w_ss2LN, ↓w_lsT, ↓w_lsL, ↓w_srtI, ↓w_srtN, ↓w_srtTI, ↓w_srtTN, ↓w_srtP, ↓kG3_i, ↓wI_rg3, ↓wE_comp2, pl_1, pl_2, wipe_1, wipe_2, unw_1, unw_2, List.getD_cons_zero, List.getD_cons_succ, List.set_cons_zero, List.set_cons_succ, List.cons_append, List.nil_append, List.replicate_succ, List.replicate_zero, Nat.reduceSub, Nat.reduceAdd, Nat.reduceLT, plain_no, plain_val, plain_ov, Int.natCast_zero, Int.ofNat_zero, Int.cast_ofNat_Int, decide_eq_true_eq, decide_eq_false_iff_not, Bool.not_eq_true', Bool.not_eq_false', Bool.not_true, Bool.not_false, if_true, if_false, true_and, and_true, forall_const, decide_true, decide_false, Int.toNat_natCast, Int.reduceEq, Int.reduceNe, Int.reduceLT, Int.reduceLE, Int.zero_add, implies_true, true_implies, not_true_eq_false, not_false_eq_true, false_implies, false_and, and_false, reduceCtorEq, ite_true, ite_false, eq_self, List.length_cons, List.length_nil, oz_own, oz_val, pl_3, pl_4, wipe_3, wipe_4, unw_3, unw_4]
    exact ⟨l4, some _, some _, some _, rfl⟩
  · rintro _ ⟨l', o2, o3, o4, rfl⟩
    simp only [↓wO_some, ↓wO_none, ↓wSl_0, ↓wSl_s, ↓wP_0, ↓wP_s, ↓kW_no, ↓kW_val, ↓kW_own, ↓kW_ov, ↓wO_setSlot, ↓wE_C, ↓kB_val, ↓kB_own, ↓kB_io, ↓wE_B, ↓kV_val, ↓kV_own, ↓wE_V, ↓kM_val, ↓kM_own, ↓wE_M, ↓kF_fz, ↓kF_bw, ↓kF_fr, ↓wE_F, ↓wR_fz, ↓kCt_val, ↓kCt_own, ↓kCt_io, ↓wR_bw, ↓wE_bin, ↓wE_un, ↓wA_nil, ↓kA_fz, ↓kA_bw, ↓kA_fr, ↓wA_cons, ↓wRs_nil, ↓wRs_cons, ↓wE_args, ↓wZ_nil, ↓wZ_cons, ↓kSz_0, ↓kSz_1, ↓kSz_2, ↓kSz_3, ↓kSz_4, ↓kSz_5, ↓kSz_6, ↓kSz_7, ↓kSz_8, ↓wE_tup, ↓wE_lst, ↓kT_bool, ↓wT_tst, ↓wT_and, ↓wT_or, ↓wT_not, ↓wT_yes, ↓wE_bool, ↓wE_if, ↓kAs_val, ↓kAs_own, ↓kAs_io, ↓wAs_nil, ↓wAs_fz, ↓wAs_bw, ↓kOut_nil, ↓kOut_nilr, ↓kPut_own, ↓kPut_io, ↓kOut_one, ↓kOut_oner, ↓wE_call, ↓w_add, ↓w_sub, ↓w_mul, ↓w_mulI, ↓w_fdiv, ↓w_mod, ↓w_neg, ↓w_lt, ↓w_le, ↓w_gt, ↓w_ge, ↓w_eq, ↓w_ne, ↓w_abs, ↓w_min2, ↓w_max2, ↓w_int, ↓w_intb, ↓w_pow, ↓w_lenL, ↓w_lenT, ↓w_ixL, ↓w_ixT, ↓w_tupL, ↓w_tupT, ↓w_listL, ↓w_listT, ↓kS_nx, ↓kS_bk, ↓kS_rt, ↓wS_nx, ↓wS_bk, ↓wS_seq, ↓kSt_fz, ↓kSt_fr, ↓wS_set, ↓kR_fz, ↓kR_fr, ↓wS_ret, ↓wS_retN, ↓wS_drop, ↓wS_if, ↓kAg_val, ↓wS_aug, ↓wG_N, ↓wG_T, ↓wGs_nil, ↓wGs_cons, ↓kIt_L, ↓kIt_T, ↓wI_seq, ↓kG1_i, ↓wI_rg1, ↓kG2_i, ↓wI_rg2, ↓wS_for, ↓wS_while, ↓kAz_fz, ↓wS_asg, ↓kL_nx, ↓kL_bk, ↓kL_rt, ↓wE_comp, ↓wU_nil, ↓wU_io, ↓wU_val, ↓kFn_fz, ↓kFn_fr, ↓kFn_nx, ↓wM_append, ↓wM_pop, ↓wM_rev, ↓wM_ins, ↓wM_popAt, ↓kMt_own, ↓kMt_io, ↓wE_mut, ↓wE_mut0, ↓kSi_i, ↓kSo_fz, ↓wS_store, ↓wE_meth, ↓w_addLL, ↓w_addTT, ↓w_mulLI, ↓w_mulTI, ↓w_inTI, ↓w_inLI, ↓w_inTN, ↓w_inLN, ↓w_sumTI, ↓w_sumLI, ↓w_sumTN, ↓w_sumLN, ↓w_cntTI, ↓w_cntTN, ↓w_cntLI, ↓w_cntLN, ↓kTR1_i, ↓kLR1_i, ↓wE_tupRg1, ↓wE_listRg1, ↓kTR2b_i, ↓kTR2_i, ↓kLR2b_i, ↓kLR2_i, ↓w_isN_none, ↓w_isN_bool, ↓w_isN_int, ↓w_isN_str, ↓w_isN_tuple, ↓w_notN_none, ↓w_notN_bool, ↓w_notN_int, ↓w_notN_str, ↓w_notN_tuple, ↓w_eqb, ↓w_eqLN, ↓w_neLN, ↓w_eqTN, ↓w_neTN, ↓w_neb, ↓w_isB, ↓w_notB, ↓w_revL, ↓w_iadd, ↓kW_oz, ↓kPar_2, ↓wS_par, ↓kCh2_b, ↓kCh_fz, ↓wE_chain, ↓w_gcd, ↓kSS_fz, ↓wE_sortSet, ↓w_sortSetI, ↓w_sortSetN, ↓wX_no, ↓kOI_i, ↓wX_yes, ↓wE_sl, ↓w_slT, ↓w_slL, ↓ats0, ↓ats1, ↓ats2, ↓ats3, ↓w_eqOI, ↓w_neOI, ↓w_eqOO, ↓w_isOI, ↓w_notOI, ↓w_revTL, ↓w_revTT, ↓kAuZ_fz, ↓kAuS_i, ↓wS_augS, ↓kEx_fr, ↓kEx_bw, ↓wS_ext, ↓kOn_fz, ↓wE_onFz, ↓w_ss2T, ↓w_ss2L, ↓w_ss2TN, ↓w_ss2LN, ↓w_lsT, ↓w_lsL, ↓w_srtI, ↓w_srtN, ↓w_srtTI, ↓w_srtTN, ↓w_srtP, ↓kG3_i, ↓wI_rg3, ↓wE_comp2, pl_1, pl_2, wipe_1, wipe_2, unw_1, unw_2, List.getD_cons_zero, List.getD_cons_succ, List.set_cons_zero, List.set_cons_succ, List.cons_append, List.nil_append, List.replicate_succ, List.replicate_zero, Nat.reduceSub, Nat.reduceAdd, Nat.reduceLT, plain_no, plain_val, plain_ov, Int.natCast_zero, Int.ofNat_zero, Int.cast_ofNat_Int, decide_eq_true_eq, decide_eq_false_iff_not, Bool.not_eq_true', Bool.not_eq_false', Bool.not_true, Bool.not_false, if_true, if_false, true_and, and_true, forall_const, decide_true, decide_false, Int.toNat_natCast, Int.reduceEq, Int.reduceNe, Int.reduceLT, Int.reduceLE, Int.zero_add, implies_true, true_implies, not_true_eq_false, not_false_eq_true, false_implies, false_and, and_false, reduceCtorEq, ite_true, ite_false, eq_self, List.length_cons, List.length_nil, oz_own, oz_val, pl_3, pl_4, wipe_3, wipe_4, unw_3, unw_4]
    refine rows_right fun l2 => ?_
    have c1 : F_chance_none_found [.val (.int 4), .val (.int 2), .val (.int 2)] = some (.fz (.tuple [.int 1, .int 6]), []) := by kernel_rfl
    have c2 : F_chance_right [.val (.int 2), .val (.int 2), .val (.int 0)] = some (.fz (.tuple [.int 1, .int 4]), []) := by kernel_rfl
    have c3 : F_mean_found [.val (.int 4), .val (.int 2), .val (.int 3)] = some (.fz (.tuple [.int 3, .int 2]), []) := by kernel_rfl
    have c4 : F_looks_needed [.val (.int 4), .val (.int 2), .val (.tuple [.int 1, .int 4])] = some (.fz (.int 2), []) := by kernel_rfl
    have c5 : F_chance_found [.val (.int 4), .val (.int 2), .val (.int 2), .val (.int 2)] = some (.fz (.tuple [.int 1, .int 6]), []) := by kernel_rfl
    have c6 : F__law_are_chances_right [.val (.int 6), .val (.int 3), .val (.int 2)] = some (.fz (.bool true), []) := by kernel_rfl
    have si : ∀ i : Int, F_sameB [.val (.int i), .val (.int i)] = some (.fz (.bool true), []) := fun i => sameB_refl 7 _ (.int i)
    have s2 : ∀ i j : Int, F_sameB [.val (.tuple [.int i, .int j]), .val (.tuple [.int i, .int j])] = some (.fz (.bool true), []) := fun i j => sameB_refl 7 _ (Pl.ints (l := [i, j]) (by simp))
    simp only [↓wO_some, ↓wO_none, ↓wSl_0, ↓wSl_s, ↓wP_0, ↓wP_s, ↓kW_no, ↓kW_val, ↓kW_own, ↓kW_ov, ↓wO_setSlot, ↓wE_C, ↓kB_val, ↓kB_own, ↓kB_io, ↓wE_B, ↓kV_val, ↓kV_own, ↓wE_V, ↓kM_val, ↓kM_own, ↓wE_M, ↓kF_fz, ↓kF_bw, ↓kF_fr, ↓wE_F, ↓wR_fz, ↓kCt_val, ↓kCt_own, ↓kCt_io, ↓wR_bw, ↓wE_bin, ↓wE_un, ↓wA_nil, ↓kA_fz, ↓kA_bw, ↓kA_fr, ↓wA_cons, ↓wRs_nil, ↓wRs_cons, ↓wE_args, ↓wZ_nil, ↓wZ_cons, ↓kSz_0, ↓kSz_1, ↓kSz_2, ↓kSz_3, ↓kSz_4, ↓kSz_5, ↓kSz_6, ↓kSz_7, ↓kSz_8, ↓wE_tup, ↓wE_lst, ↓kT_bool, ↓wT_tst, ↓wT_and, ↓wT_or, ↓wT_not, ↓wT_yes, ↓wE_bool, ↓wE_if, ↓kAs_val, ↓kAs_own, ↓kAs_io, ↓wAs_nil, ↓wAs_fz, ↓wAs_bw, ↓kOut_nil, ↓kOut_nilr, ↓kPut_own, ↓kPut_io, ↓kOut_one, ↓kOut_oner, ↓wE_call, ↓w_add, ↓w_sub, ↓w_mul, ↓w_mulI, ↓w_fdiv, ↓w_mod, ↓w_neg, ↓w_lt, ↓w_le, ↓w_gt, ↓w_ge, ↓w_eq, ↓w_ne, ↓w_abs, ↓w_min2, ↓w_max2, ↓w_int, ↓w_intb, ↓w_pow, ↓w_lenL, ↓w_lenT, ↓w_ixL, ↓w_ixT, ↓w_tupL, ↓w_tupT, ↓w_listL, ↓w_listT, ↓kS_nx, ↓kS_bk, ↓kS_rt, ↓wS_nx, ↓wS_bk, ↓wS_seq, ↓kSt_fz, ↓kSt_fr, ↓wS_set, ↓kR_fz, ↓kR_fr, ↓wS_ret, ↓wS_retN, ↓wS_drop, ↓wS_if, ↓kAg_val, ↓wS_aug, ↓wG_N, ↓wG_T, ↓wGs_nil, ↓wGs_cons, ↓kIt_L, ↓kIt_T, ↓wI_seq, ↓kG1_i, ↓wI_rg1, ↓kG2_i, ↓wI_rg2, ↓wS_for, ↓wS_while, ↓kAz_fz, ↓wS_asg, ↓kL_nx, ↓kL_bk, ↓kL_rt, ↓wE_comp, ↓wU_nil, ↓wU_io, ↓wU_val, ↓kFn_fz, ↓kFn_fr, ↓kFn_nx, ↓wM_append, ↓wM_pop, ↓wM_rev, ↓wM_ins, ↓wM_popAt, ↓kMt_own, ↓kMt_io, ↓wE_mut, ↓wE_mut0, ↓kSi_i, ↓kSo_fz, ↓wS_store, ↓wE_meth, ↓w_addLL, ↓w_addTT, ↓w_mulLI, ↓w_mulTI, ↓w_inTI, ↓w_inLI, ↓w_inTN, ↓w_inLN, ↓w_sumTI, ↓w_sumLI, ↓w_sumTN, ↓w_sumLN, ↓w_cntTI, ↓w_cntTN, ↓w_cntLI, ↓w_cntLN, ↓kTR1_i, ↓kLR1_i, ↓wE_tupRg1, ↓wE_listRg1, ↓kTR2b_i, ↓kTR2_i, ↓kLR2b_i, ↓kLR2_i, ↓w_isN_none, ↓w_isN_bool, ↓w_isN_int, ↓w_isN_str, ↓w_isN_tuple, ↓w_notN_none, ↓w_notN_bool, ↓w_notN_int, ↓w_notN_str, ↓w_notN_tuple, ↓w_eqb, ↓w_eqLN, ↓w_neLN, ↓w_eqTN, ↓w_neTN, ↓w_neb, ↓w_isB, ↓w_notB, ↓w_revL, ↓w_iadd, ↓kW_oz, ↓kPar_2, ↓wS_par, ↓kCh2_b, ↓kCh_fz, ↓wE_chain, ↓w_gcd, ↓kSS_fz, ↓wE_sortSet, ↓w_sortSetI, ↓w_sortSetN, ↓wX_no, ↓kOI_i, ↓wX_yes, ↓wE_sl, ↓w_slT, ↓w_slL, ↓ats0, ↓ats1, ↓ats2, ↓ats3, ↓w_eqOI, ↓w_neOI, ↓w_eqOO, ↓w_isOI, ↓w_notOI, ↓w_revTL, ↓w_revTT, ↓kAuZ_fz, ↓kAuS_i, ↓wS_augS, ↓kEx_fr, ↓kEx_bw, ↓wS_ext, ↓kOn_fz, ↓wE_onFz, ↓w_ss2T, ↓w_ss2L, ↓w_ss2TN, ↓w_ss2LN, ↓w_lsT, ↓w_lsL, ↓w_srtI, ↓w_srtN, ↓w_srtTI, ↓w_srtTN, ↓w_srtP, ↓kG3_i, ↓wI_rg3, ↓wE_comp2, pl_1, pl_2, wipe_1, wipe_2, unw_1, unw_2, List.getD_cons_zero, List.getD_cons_succ, List.set_cons_zero, List.set_cons_succ, List.cons_append, List.nil_append, List.replicate_succ, List.replicate_zero, Nat.reduceSub, Nat.reduceAdd, Nat.reduceLT, plain_no, plain_val, plain_ov, Int.natCast_zero, Int.ofNat_zero, Int.cast_ofNat_Int, decide_eq_true_eq, decide_eq_false_iff_not, Bool.not_eq_true', Bool.not_eq_false', Bool.not_true, Bool.not_false, if_true, if_false, true_and, and_true, forall_const, decide_true, decide_false, Int.toNat_natCast, Int.reduceEq, Int.reduceNe, Int.reduceLT, Int.reduceLE, Int.zero_add, implies_true, true_implies, not_true_eq_false, not_false_eq_true, false_implies, false_and, and_false, reduceCtorEq, ite_true, ite_false, eq_self, List.length_cons, List.length_nil, oz_own, oz_val, pl_3, pl_4, wipe_3, wipe_4, unw_3, unw_4, c1, c2, c3, c4, c5, c6, F__law_same, si, s2]
end K89


set_option Elab.async false
set_option linter.all false
set_option maxRecDepth 100000
set_option maxHeartbeats 0
namespace K89.D
open PySem PySem.Spec L2 Ev
open PyProof.Rows hiding St
def top (i : Nat) : Stmt := PySem.Challenge.pw_papersdealt_k89_whole_looks_and_guesses.main.body.getD i (.Pass ⟨0, 0, 0, 0⟩)
section
variable {P : Program} {w : World} {K : PySem.W.Frag} {mg : Str → Option Value} {base : Heap}
theorem sc_fraction : FnScope ["n", "d", "divisor"] ["n", "d"] (defScope (top 2)) := ⟨rfl, rfl, rfl, by decide +kernel, rfl, by decide +kernel, by decide +kernel⟩
theorem ok_fraction {f : Addr} {fd : FuncData} (F : FunD K "fraction" "fraction" (defArgs (top 2)) (defBody (top 2)) (defScope (top 2)) [] [] f fd) (B : Bl mg) (Gc : mg "gcd" = some (.builtin "math.gcd"))  : FnOk P w K mg base CX0 1 f fd ["n", "d"] (spF K F_fraction) := by
  
  refine fn_okD (st := top 2) (k := 0) F sc_fraction (fun cdv A outer s H E hr => ?_)
  have nd := sc_fraction.nd
  have hu := hu65 hr
  exact (eb_cons (es_set (i := 2) nd rfl (Or.inl rfl) (ev_gcd (by rfl) Gc (ea_cons (ev_b (pv 0)) (ea_cons (ev_b (pv 1)) ea_nil))))
      (eb_cons (es_if (et_cmp o_lt (ev_b (pv 1)) ev_int (nomark _))
      (eb_one (es_set (i := 2) nd rfl (Or.inl rfl) (ev_un o_neg (ev_b (pv 2)))))
      eb_nil)
      (eb_one (es_ret (ev_tup (ea_cons (ev_bin o_fdiv (ev_b (pv 0)) (ev_b (pv 2))) (ea_cons (ev_bin o_fdiv (ev_b (pv 1)) (ev_b (pv 2))) ea_nil)))))))
theorem sc_plus_of : FnScope ["one", "other"] ["one", "other"] (defScope (top 3)) := ⟨rfl, rfl, rfl, by decide +kernel, rfl, by decide +kernel, by decide +kernel⟩
theorem ok_plus_of {f : Addr} {fd : FuncData} (F : FunD K "plus_of" "plus_of" (defArgs (top 3)) (defBody (top 3)) (defScope (top 3)) [] [] f fd) (B : Bl mg) (Gc : mg "gcd" = some (.builtin "math.gcd")) (C_fraction : Cal P w K mg base 1 "fraction" F_fraction) : FnOk P w K mg base CX0 2 f fd ["one", "other"] (spF K F_plus_of) := by
  have C_fraction := C_fraction.mono (show 1 ≤ 1 by omega)
  refine fn_okD (st := top 3) (k := 1) F sc_plus_of (fun cdv A outer s H E hr => ?_)
  have nd := sc_plus_of.nd
  have hu := hu65 hr
  exact (eb_one (es_ret (ev_call C_fraction hr (by rfl) (ea_cons (ev_bin o_add (ev_bin o_mul (ev_ix x_ix (ev_b (pv 0)) ev_int (by intro _ _; rfl)) (ev_ix x_ix (ev_b (pv 1)) ev_int (by intro _ _; rfl))) (ev_bin o_mul (ev_ix x_ix (ev_b (pv 1)) ev_int (by intro _ _; rfl)) (ev_ix x_ix (ev_b (pv 0)) ev_int (by intro _ _; rfl)))) (ea_cons (ev_bin o_mul (ev_ix x_ix (ev_b (pv 0)) ev_int (by intro _ _; rfl)) (ev_ix x_ix (ev_b (pv 1)) ev_int (by intro _ _; rfl))) ea_nil)))))
theorem sc_minus_of : FnScope ["one", "other"] ["one", "other"] (defScope (top 4)) := ⟨rfl, rfl, rfl, by decide +kernel, rfl, by decide +kernel, by decide +kernel⟩
theorem ok_minus_of {f : Addr} {fd : FuncData} (F : FunD K "minus_of" "minus_of" (defArgs (top 4)) (defBody (top 4)) (defScope (top 4)) [] [] f fd) (B : Bl mg) (Gc : mg "gcd" = some (.builtin "math.gcd")) (C_fraction : Cal P w K mg base 1 "fraction" F_fraction) : FnOk P w K mg base CX0 2 f fd ["one", "other"] (spF K F_minus_of) := by
  have C_fraction := C_fraction.mono (show 1 ≤ 1 by omega)
  refine fn_okD (st := top 4) (k := 1) F sc_minus_of (fun cdv A outer s H E hr => ?_)
  have nd := sc_minus_of.nd
  have hu := hu65 hr
  exact (eb_one (es_ret (ev_call C_fraction hr (by rfl) (ea_cons (ev_bin o_sub (ev_bin o_mul (ev_ix x_ix (ev_b (pv 0)) ev_int (by intro _ _; rfl)) (ev_ix x_ix (ev_b (pv 1)) ev_int (by intro _ _; rfl))) (ev_bin o_mul (ev_ix x_ix (ev_b (pv 1)) ev_int (by intro _ _; rfl)) (ev_ix x_ix (ev_b (pv 0)) ev_int (by intro _ _; rfl)))) (ea_cons (ev_bin o_mul (ev_ix x_ix (ev_b (pv 0)) ev_int (by intro _ _; rfl)) (ev_ix x_ix (ev_b (pv 1)) ev_int (by intro _ _; rfl))) ea_nil)))))
theorem sc_is_less : FnScope ["one", "other"] ["one", "other"] (defScope (top 5)) := ⟨rfl, rfl, rfl, by decide +kernel, rfl, by decide +kernel, by decide +kernel⟩
theorem ok_is_less {f : Addr} {fd : FuncData} (F : FunD K "is_less" "is_less" (defArgs (top 5)) (defBody (top 5)) (defScope (top 5)) [] [] f fd) (B : Bl mg) (Gc : mg "gcd" = some (.builtin "math.gcd"))  : FnOk P w K mg base CX0 1 f fd ["one", "other"] (spF K F_is_less) := by
  
  refine fn_okD (st := top 5) (k := 0) F sc_is_less (fun cdv A outer s H E hr => ?_)
  have nd := sc_is_less.nd
  have hu := hu65 hr
  exact (eb_one (es_ret (ev_cmp o_lt (ev_bin o_mul (ev_ix x_ix (ev_b (pv 0)) ev_int (by intro _ _; rfl)) (ev_ix x_ix (ev_b (pv 1)) ev_int (by intro _ _; rfl))) (ev_bin o_mul (ev_ix x_ix (ev_b (pv 1)) ev_int (by intro _ _; rfl)) (ev_ix x_ix (ev_b (pv 0)) ev_int (by intro _ _; rfl))) (nomark _))))
theorem sc_count_choices : FnScope ["n", "k", "found", "step"] ["n", "k"] (defScope (top 7)) := ⟨rfl, rfl, rfl, by decide +kernel, rfl, by decide +kernel, by decide +kernel⟩
theorem ok_count_choices {f : Addr} {fd : FuncData} (F : FunD K "count_choices" "count_choices" (defArgs (top 7)) (defBody (top 7)) (defScope (top 7)) [] [] f fd) (B : Bl mg) (Gc : mg "gcd" = some (.builtin "math.gcd"))  : FnOk P w K mg base CX0 1 f fd ["n", "k"] (spF K F_count_choices) := by
  
  refine fn_okD (st := top 7) (k := 0) F sc_count_choices (fun cdv A outer s H E hr => ?_)
  have nd := sc_count_choices.nd
  have hu := hu65 hr
  exact (eb_cons (es_if (et_not (et_chain o_le o_le ev_int (ev_b (pv 1)) (ev_b (pv 0))))
      (eb_one (es_ret ev_int))
      eb_nil)
      (eb_cons (es_set (i := 2) nd rfl (Or.inl rfl) ev_int)
      (eb_cons (es_for PassesOwn.never rfl (ei_rg1 (by rfl) B.range (ea_cons (ev_v (pv 1)) ea_nil)) (eg_name (i := 3) (pg_name (i := 3) nd rfl (Or.inl rfl)))
      (eb_one (es_set (i := 2) nd rfl (Or.inl rfl) (ev_bin o_fdiv (ev_bin o_mul (ev_b (pv 2)) (ev_bin o_sub (ev_b (pv 0)) (ev_b (pv 3)))) (ev_bin o_add (ev_b (pv 3)) ev_int)))))
      (eb_one (es_ret (ev_m (pv 2)))))))
theorem sc_chance_found : FnScope ["n", "b", "k", "found"] ["n", "b", "k", "found"] (defScope (top 9)) := ⟨rfl, rfl, rfl, by decide +kernel, rfl, by decide +kernel, by decide +kernel⟩
theorem ok_chance_found {f : Addr} {fd : FuncData} (F : FunD K "chance_found" "chance_found" (defArgs (top 9)) (defBody (top 9)) (defScope (top 9)) [] [] f fd) (B : Bl mg) (Gc : mg "gcd" = some (.builtin "math.gcd")) (C_fraction : Cal P w K mg base 1 "fraction" F_fraction) (C_count_choices : Cal P w K mg base 1 "count_choices" F_count_choices) : FnOk P w K mg base CX0 2 f fd ["n", "b", "k", "found"] (spF K F_chance_found) := by
  have C_fraction := C_fraction.mono (show 1 ≤ 1 by omega)
  have C_count_choices := C_count_choices.mono (show 1 ≤ 1 by omega)
  refine fn_okD (st := top 9) (k := 1) F sc_chance_found (fun cdv A outer s H E hr => ?_)
  have nd := sc_chance_found.nd
  have hu := hu65 hr
  exact (eb_one (es_ret (ev_call C_fraction hr (by rfl) (ea_cons (ev_bin o_mul (ev_call C_count_choices hr (by rfl) (ea_cons (ev_v (pv 1)) (ea_cons (ev_v (pv 3)) ea_nil))) (ev_call C_count_choices hr (by rfl) (ea_cons (ev_bin o_sub (ev_b (pv 0)) (ev_b (pv 1))) (ea_cons (ev_bin o_sub (ev_b (pv 2)) (ev_b (pv 3))) ea_nil)))) (ea_cons (ev_call C_count_choices hr (by rfl) (ea_cons (ev_v (pv 0)) (ea_cons (ev_v (pv 2)) ea_nil))) ea_nil)))))
theorem sc_chance_none_found : FnScope ["n", "b", "k"] ["n", "b", "k"] (defScope (top 10)) := ⟨rfl, rfl, rfl, by decide +kernel, rfl, by decide +kernel, by decide +kernel⟩
theorem ok_chance_none_found {f : Addr} {fd : FuncData} (F : FunD K "chance_none_found" "chance_none_found" (defArgs (top 10)) (defBody (top 10)) (defScope (top 10)) [] [] f fd) (B : Bl mg) (Gc : mg "gcd" = some (.builtin "math.gcd")) (C_chance_found : Cal P w K mg base 2 "chance_found" F_chance_found) : FnOk P w K mg base CX0 3 f fd ["n", "b", "k"] (spF K F_chance_none_found) := by
  have C_chance_found := C_chance_found.mono (show 2 ≤ 2 by omega)
  refine fn_okD (st := top 10) (k := 2) F sc_chance_none_found (fun cdv A outer s H E hr => ?_)
  have nd := sc_chance_none_found.nd
  have hu := hu65 hr
  exact (eb_one (es_ret (ev_call C_chance_found hr (by rfl) (ea_cons (ev_v (pv 0)) (ea_cons (ev_v (pv 1)) (ea_cons (ev_v (pv 2)) (ea_cons ev_int ea_nil)))))))
theorem sc_is_enough : FnScope ["n", "b", "k", "chance"] ["n", "b", "k", "chance"] (defScope (top 11)) := ⟨rfl, rfl, rfl, by decide +kernel, rfl, by decide +kernel, by decide +kernel⟩
theorem ok_is_enough {f : Addr} {fd : FuncData} (F : FunD K "is_enough" "is_enough" (defArgs (top 11)) (defBody (top 11)) (defScope (top 11)) [] [] f fd) (B : Bl mg) (Gc : mg "gcd" = some (.builtin "math.gcd")) (C_is_less : Cal P w K mg base 1 "is_less" F_is_less) (C_chance_none_found : Cal P w K mg base 3 "chance_none_found" F_chance_none_found) : FnOk P w K mg base CX0 4 f fd ["n", "b", "k", "chance"] (spF K F_is_enough) := by
  have C_is_less := C_is_less.mono (show 1 ≤ 3 by omega)
  have C_chance_none_found := C_chance_none_found.mono (show 3 ≤ 3 by omega)
  refine fn_okD (st := top 11) (k := 3) F sc_is_enough (fun cdv A outer s H E hr => ?_)
  have nd := sc_is_enough.nd
  have hu := hu65 hr
  exact (eb_one (es_ret (ev_not (ev_call C_is_less hr (by rfl) (ea_cons (ev_v (pv 3)) (ea_cons (ev_call C_chance_none_found hr (by rfl) (ea_cons (ev_v (pv 0)) (ea_cons (ev_v (pv 1)) (ea_cons (ev_v (pv 2)) ea_nil)))) ea_nil))))))
theorem sc_looks_needed : FnScope ["n", "b", "chance", "fit", "k"] ["n", "b", "chance"] (defScope (top 12)) := ⟨rfl, rfl, rfl, by decide +kernel, rfl, by decide +kernel, by decide +kernel⟩
theorem ok_looks_needed {f : Addr} {fd : FuncData} (F : FunD K "looks_needed" "looks_needed" (defArgs (top 12)) (defBody (top 12)) (defScope (top 12)) [] [] f fd) (B : Bl mg) (Gc : mg "gcd" = some (.builtin "math.gcd")) (C_is_enough : Cal P w K mg base 4 "is_enough" F_is_enough) : FnOk P w K mg base CX0 5 f fd ["n", "b", "chance"] (spF K F_looks_needed) := by
  have C_is_enough := C_is_enough.mono (show 4 ≤ 4 by omega)
  refine fn_okD (st := top 12) (k := 4) F sc_looks_needed (fun cdv A outer s H E hr => ?_)
  have nd := sc_looks_needed.nd
  have hu := hu65 hr
  exact (eb_cons (es_setLc [("k", 4)] (i := 3) rfl nd rfl rfl (sw_true rfl rfl rfl (by decide +kernel)) (ei_rg1 (by rfl) B.range (ea_cons (ev_bin o_add (ev_b (pv 0)) ev_int) ea_nil)) (blkOk_by (by kernel_rfl)) (by decide) (fun _ _ _ _ _ => (eg_name (i := 4) (pg_name (i := 4) nd rfl (Or.inl rfl)))) (fun _ _ _ _ _ => (ets_one (et_val (ev_call C_is_enough hr (by rfl) (ea_cons (ev_v (pv 0)) (ea_cons (ev_v (pv 1)) (ea_cons (ev_v (pv 4)) (ea_cons (ev_v (pv 2)) ea_nil)))))))) (fun _ _ _ _ _ => (ev_v (pv 4))))
      (eb_one (es_ret (ev_if (et_cmp o_gt (ev_blt c_len (by rfl) B.len bb_len (ea_cons (ev_b (pv 3)) ea_nil)) ev_int (nomark _)) (ev_ix x_ix (ev_b (pv 3)) ev_int (by intro _ _; rfl)) ev_non))))
theorem sc_mean_found : FnScope ["n", "b", "k"] ["n", "b", "k"] (defScope (top 13)) := ⟨rfl, rfl, rfl, by decide +kernel, rfl, by decide +kernel, by decide +kernel⟩
theorem ok_mean_found {f : Addr} {fd : FuncData} (F : FunD K "mean_found" "mean_found" (defArgs (top 13)) (defBody (top 13)) (defScope (top 13)) [] [] f fd) (B : Bl mg) (Gc : mg "gcd" = some (.builtin "math.gcd")) (C_fraction : Cal P w K mg base 1 "fraction" F_fraction) : FnOk P w K mg base CX0 2 f fd ["n", "b", "k"] (spF K F_mean_found) := by
  have C_fraction := C_fraction.mono (show 1 ≤ 1 by omega)
  refine fn_okD (st := top 13) (k := 1) F sc_mean_found (fun cdv A outer s H E hr => ?_)
  have nd := sc_mean_found.nd
  have hu := hu65 hr
  exact (eb_one (es_ret (ev_if (et_cmp o_gt (ev_b (pv 0)) ev_int (nomark _)) (ev_call C_fraction hr (by rfl) (ea_cons (ev_bin o_mul (ev_b (pv 1)) (ev_b (pv 2))) (ea_cons (ev_v (pv 0)) ea_nil))) (ev_tup (ea_cons ev_int (ea_cons ev_int ea_nil))))))
theorem sc_power : FnScope ["number", "k", "found", "step"] ["number", "k"] (defScope (top 15)) := ⟨rfl, rfl, rfl, by decide +kernel, rfl, by decide +kernel, by decide +kernel⟩
theorem ok_power {f : Addr} {fd : FuncData} (F : FunD K "power" "power" (defArgs (top 15)) (defBody (top 15)) (defScope (top 15)) [] [] f fd) (B : Bl mg) (Gc : mg "gcd" = some (.builtin "math.gcd"))  : FnOk P w K mg base CX0 1 f fd ["number", "k"] (spF K F_power) := by
  
  refine fn_okD (st := top 15) (k := 0) F sc_power (fun cdv A outer s H E hr => ?_)
  have nd := sc_power.nd
  have hu := hu65 hr
  exact (eb_cons (es_set (i := 2) nd rfl (Or.inl rfl) ev_int)
      (eb_cons (es_for PassesOwn.never rfl (ei_rg1 (by rfl) B.range (ea_cons (ev_v (pv 1)) ea_nil)) (eg_name (i := 3) (pg_name (i := 3) nd rfl (Or.inl rfl)))
      (eb_one (es_aug (i := 2) nd rfl (Or.inl rfl) (ev_b (pv 0)) o_imul)))
      (eb_one (es_ret (ev_m (pv 2))))))
theorem sc_ways_to_choose : FnScope ["n", "k", "found", "step"] ["n", "k"] (defScope (top 16)) := ⟨rfl, rfl, rfl, by decide +kernel, rfl, by decide +kernel, by decide +kernel⟩
theorem ok_ways_to_choose {f : Addr} {fd : FuncData} (F : FunD K "ways_to_choose" "ways_to_choose" (defArgs (top 16)) (defBody (top 16)) (defScope (top 16)) [] [] f fd) (B : Bl mg) (Gc : mg "gcd" = some (.builtin "math.gcd"))  : FnOk P w K mg base CX0 1 f fd ["n", "k"] (spF K F_ways_to_choose) := by
  
  refine fn_okD (st := top 16) (k := 0) F sc_ways_to_choose (fun cdv A outer s H E hr => ?_)
  have nd := sc_ways_to_choose.nd
  have hu := hu65 hr
  exact (eb_cons (es_set (i := 2) nd rfl (Or.inl rfl) ev_int)
      (eb_cons (es_for PassesOwn.never rfl (ei_rg1 (by rfl) B.range (ea_cons (ev_v (pv 1)) ea_nil)) (eg_name (i := 3) (pg_name (i := 3) nd rfl (Or.inl rfl)))
      (eb_one (es_set (i := 2) nd rfl (Or.inl rfl) (ev_bin o_fdiv (ev_bin o_mul (ev_b (pv 2)) (ev_bin o_sub (ev_b (pv 0)) (ev_b (pv 3)))) (ev_bin o_add (ev_b (pv 3)) ev_int)))))
      (eb_one (es_ret (ev_m (pv 2))))))
theorem sc_chance_right : FnScope ["n", "c", "k"] ["n", "c", "k"] (defScope (top 17)) := ⟨rfl, rfl, rfl, by decide +kernel, rfl, by decide +kernel, by decide +kernel⟩
theorem ok_chance_right {f : Addr} {fd : FuncData} (F : FunD K "chance_right" "chance_right" (defArgs (top 17)) (defBody (top 17)) (defScope (top 17)) [] [] f fd) (B : Bl mg) (Gc : mg "gcd" = some (.builtin "math.gcd")) (C_fraction : Cal P w K mg base 1 "fraction" F_fraction) (C_power : Cal P w K mg base 1 "power" F_power) (C_ways_to_choose : Cal P w K mg base 1 "ways_to_choose" F_ways_to_choose) : FnOk P w K mg base CX0 2 f fd ["n", "c", "k"] (spF K F_chance_right) := by
  have C_fraction := C_fraction.mono (show 1 ≤ 1 by omega)
  have C_power := C_power.mono (show 1 ≤ 1 by omega)
  have C_ways_to_choose := C_ways_to_choose.mono (show 1 ≤ 1 by omega)
  refine fn_okD (st := top 17) (k := 1) F sc_chance_right (fun cdv A outer s H E hr => ?_)
  have nd := sc_chance_right.nd
  have hu := hu65 hr
  exact (eb_cons (es_if (et_not (et_chain o_le o_le ev_int (ev_b (pv 2)) (ev_b (pv 0))))
      (eb_one (es_ret (ev_tup (ea_cons ev_int (ea_cons ev_int ea_nil)))))
      eb_nil)
      (eb_one (es_ret (ev_call C_fraction hr (by rfl) (ea_cons (ev_bin o_mul (ev_call C_ways_to_choose hr (by rfl) (ea_cons (ev_v (pv 0)) (ea_cons (ev_v (pv 2)) ea_nil))) (ev_call C_power hr (by rfl) (ea_cons (ev_bin o_sub (ev_b (pv 1)) ev_int) (ea_cons (ev_bin o_sub (ev_b (pv 0)) (ev_b (pv 2))) ea_nil)))) (ea_cons (ev_call C_power hr (by rfl) (ea_cons (ev_v (pv 1)) (ea_cons (ev_v (pv 0)) ea_nil))) ea_nil))))))
theorem sc_chance_pass : FnScope ["n", "c", "least", "total", "k"] ["n", "c", "least"] (defScope (top 18)) := ⟨rfl, rfl, rfl, by decide +kernel, rfl, by decide +kernel, by decide +kernel⟩
theorem ok_chance_pass {f : Addr} {fd : FuncData} (F : FunD K "chance_pass" "chance_pass" (defArgs (top 18)) (defBody (top 18)) (defScope (top 18)) [] [] f fd) (B : Bl mg) (Gc : mg "gcd" = some (.builtin "math.gcd")) (C_plus_of : Cal P w K mg base 2 "plus_of" F_plus_of) (C_chance_right : Cal P w K mg base 2 "chance_right" F_chance_right) : FnOk P w K mg base CX0 3 f fd ["n", "c", "least"] (spF K F_chance_pass) := by
  have C_plus_of := C_plus_of.mono (show 2 ≤ 2 by omega)
  have C_chance_right := C_chance_right.mono (show 2 ≤ 2 by omega)
  refine fn_okD (st := top 18) (k := 2) F sc_chance_pass (fun cdv A outer s H E hr => ?_)
  have nd := sc_chance_pass.nd
  have hu := hu65 hr
  exact (eb_cons (es_set (i := 3) nd rfl (Or.inl rfl) (ev_tup (ea_cons ev_int (ea_cons ev_int ea_nil))))
      (eb_cons (es_for PassesOwn.never rfl (ei_rg2 (by rfl) B.range (ea_cons (ev_blt (c_max2 rfl) (by rfl) B.max bb_max (ea_cons (ev_b (pv 2)) (ea_cons ev_int ea_nil))) (ea_cons (ev_bin o_add (ev_b (pv 0)) ev_int) ea_nil))) (eg_name (i := 4) (pg_name (i := 4) nd rfl (Or.inl rfl)))
      (eb_one (es_set (i := 3) nd rfl (Or.inl rfl) (ev_call C_plus_of hr (by rfl) (ea_cons (ev_v (pv 3)) (ea_cons (ev_call C_chance_right hr (by rfl) (ea_cons (ev_v (pv 0)) (ea_cons (ev_v (pv 1)) (ea_cons (ev_v (pv 4)) ea_nil)))) ea_nil))))))
      (eb_one (es_ret (ev_m (pv 3))))))
theorem sc_mean_right : FnScope ["n", "c"] ["n", "c"] (defScope (top 19)) := ⟨rfl, rfl, rfl, by decide +kernel, rfl, by decide +kernel, by decide +kernel⟩
theorem ok_mean_right {f : Addr} {fd : FuncData} (F : FunD K "mean_right" "mean_right" (defArgs (top 19)) (defBody (top 19)) (defScope (top 19)) [] [] f fd) (B : Bl mg) (Gc : mg "gcd" = some (.builtin "math.gcd")) (C_fraction : Cal P w K mg base 1 "fraction" F_fraction) : FnOk P w K mg base CX0 2 f fd ["n", "c"] (spF K F_mean_right) := by
  have C_fraction := C_fraction.mono (show 1 ≤ 1 by omega)
  refine fn_okD (st := top 19) (k := 1) F sc_mean_right (fun cdv A outer s H E hr => ?_)
  have nd := sc_mean_right.nd
  have hu := hu65 hr
  exact (eb_one (es_ret (ev_call C_fraction hr (by rfl) (ea_cons (ev_v (pv 0)) (ea_cons (ev_v (pv 1)) ea_nil)))))
theorem sc__law_draws : FnScope ["script", "many", "cells", "rest", "draws", "k", "at", "mingled", "cell"] ["script", "many"] (defScope (top 21)) := ⟨rfl, rfl, rfl, by decide +kernel, rfl, by decide +kernel, by decide +kernel⟩
theorem ok__law_draws {f : Addr} {fd : FuncData} (F : FunD K "_law_draws" "_law_draws" (defArgs (top 21)) (defBody (top 21)) (defScope (top 21)) [] [] f fd) (B : Bl mg) (Gc : mg "gcd" = some (.builtin "math.gcd"))  : FnOk P w K mg base CX0 1 f fd ["script", "many"] (spF K F__law_draws) := by
  
  refine fn_okD (st := top 21) (k := 0) F sc__law_draws (fun cdv A outer s H E hr => ?_)
  have nd := sc__law_draws.nd
  have hu := hu65 hr
  exact (eb_cons (es_setLc [("cell", 8)] (i := 2) rfl nd rfl rfl (sw_true rfl rfl rfl (by decide +kernel)) (ei_seq (ev_v (pv 0))) (blkOk_by (by kernel_rfl)) (by decide) (fun _ _ _ _ _ => (eg_name (i := 8) (pg_name (i := 8) nd rfl (Or.inl rfl)))) (fun _ _ _ _ _ => ets_nil) (fun _ _ _ _ _ => (ev_bty c_int (by rfl) B.int bb_int (ea_cons (ev_b (pv 8)) ea_nil))))
      (eb_cons (es_if (et_cmp (o_eq (hu64 hr)) (ev_blt c_len (by rfl) B.len bb_len (ea_cons (ev_b (pv 2)) ea_nil)) ev_int (nomark _))
      (eb_one (es_drop (ps_expr (ev_mut PySem.F.plainAttrs_list PySem.F.slot_list_append PySem.F.type_list_append mr_append (pv 2) (ea_cons ev_int ea_nil)).pe)))
      eb_nil)
      (eb_cons (es_set (i := 3) nd rfl (Or.inl rfl) (ev_bty c_list (by rfl) B.list bb_list (ea_cons (ev_b (pv 2)) ea_nil)))
      (eb_cons (es_set (i := 4) nd rfl (Or.inl rfl) (ev_lst ea_nil))
      (eb_cons (es_for PassesOwn.never rfl (ei_rg1 (by rfl) B.range (ea_cons (ev_v (pv 1)) ea_nil)) (eg_name (i := 5) (pg_name (i := 5) nd rfl (Or.inl rfl)))
      (eb_cons (es_set (i := 6) nd rfl (Or.inl rfl) (ev_bin o_mod (ev_b (pv 5)) (ev_blt c_len (by rfl) B.len bb_len (ea_cons (ev_b (pv 2)) ea_nil))))
      (eb_one (es_if (ew_t (ew_and (et_cmp o_ge (ev_ix x_ix (ev_b (pv 2)) (ev_b (pv 6)) (by intro _ _; rfl)) (ev_bin o_pow ev_int ev_int) (nomark _)) (ew_and1 (et_cmp o_gt (ev_ix x_ix (ev_b (pv 3)) (ev_b (pv 6)) (by intro _ _; rfl)) ev_int (nomark _)))))
      (eb_cons (es_drop (ps_expr (ev_mut PySem.F.plainAttrs_list PySem.F.slot_list_append PySem.F.type_list_append mr_append (pv 4) (ea_cons (ev_bin o_mod (ev_bty c_int (by rfl) B.int bb_int (ea_cons (ev_ix x_ix (ev_b (pv 3)) (ev_b (pv 6)) (by intro _ _; rfl)) ea_nil)) ev_int) ea_nil)).pe))
      (eb_one (es_store (ps_asg (ev_bin o_fdiv (ev_ix x_ix (ev_b (pv 3)) (ev_b (pv 6)) (by intro _ _; rfl)) ev_int).pe (pg_sub (pv 3) (ev_v (pv 6)).pe set_list)))))
      (eb_cons (es_set (i := 7) nd rfl (Or.inl rfl) (ev_bin o_mod (ev_bty c_int (by rfl) B.int bb_int (ea_cons (ev_bin o_add (ev_bin o_add (ev_bin o_mul (ev_ix x_ix (ev_b (pv 2)) (ev_b (pv 6)) (by intro _ _; rfl)) ev_int) (ev_bin o_mul (ev_b (pv 5)) ev_int)) ev_int) ea_nil)) ev_int))
      (eb_one (es_drop (ps_expr (ev_mut PySem.F.plainAttrs_list PySem.F.slot_list_append PySem.F.type_list_append mr_append (pv 4) (ea_cons (ev_bin o_mod (ev_bty c_int (by rfl) B.int bb_int (ea_cons (ev_bin o_add (ev_bin o_add (ev_bin o_mul (ev_b (pv 7)) (ev_b (pv 7))) (ev_bin o_mul ev_int (ev_b (pv 7)))) (ev_b (pv 5))) ea_nil)) ev_int) ea_nil)).pe))))))))
      (eb_cons (es_drop (ps_expr (ev_mut0 PySem.F.plainAttrs_list PySem.F.slot_list_reverse PySem.F.type_list_reverse mr_reverse (pv 4)).pe))
      (eb_one (es_ret (ev_m (pv 4))))))))))
theorem sc__law_take : FnScope ["draws", "many"] ["draws", "many"] (defScope (top 22)) := ⟨rfl, rfl, rfl, by decide +kernel, rfl, by decide +kernel, by decide +kernel⟩
theorem ok__law_take {f : Addr} {fd : FuncData} (F : FunD K "_law_take" "_law_take" (defArgs (top 22)) (defBody (top 22)) (defScope (top 22)) [] [] f fd) (B : Bl mg) (Gc : mg "gcd" = some (.builtin "math.gcd"))  : FnOk P w K mg base CX0 1 f fd ["draws", "many"] (spF K F__law_take) := by
  
  refine fn_okD (st := top 22) (k := 0) F sc__law_take (fun cdv A outer s H E hr => ?_)
  have nd := sc__law_take.nd
  have hu := hu65 hr
  exact (eb_cons (es_if (et_cmp (o_eq (hu64 hr)) (ev_blt c_len (by rfl) B.len bb_len (ea_cons (ev_b (pv 0)) ea_nil)) ev_int (nomark _))
      (eb_one (es_ret ev_int))
      eb_nil)
      (eb_one (es_ret (ev_bin o_mod (ev_bty c_int (by rfl) B.int bb_int (ea_cons (ev_mut0 PySem.F.plainAttrs_list PySem.F.slot_list_pop PySem.F.type_list_pop mr_pop (pv 0)) ea_nil)) (ev_b (pv 1))))))
theorem sc__law_same : FnScope ["actual", "due", "k"] ["actual", "due"] (defScope (top 23)) := ⟨rfl, rfl, rfl, by decide +kernel, rfl, by decide +kernel, by decide +kernel⟩
theorem ok__law_same {f : Addr} {fd : FuncData} (F : FunD K "_law_same" "_law_same" (defArgs (top 23)) (defBody (top 23)) (defScope (top 23)) [] [] f fd) (G : mg "_law_same" = some (.ref f)) (Bd : Binds K fd ["actual", "due"] []) (B : Bl mg) (Gc : mg "gcd" = some (.builtin "math.gcd"))  : ∀ n, FnOk P w K mg base CX0 (0 + n) f fd ["actual", "due"] (spF K (R__law_same n))
  | 0 => ⟨fun vs H Q E ⟨_, _, _, _, _, _, e, _⟩ => (nomatch (show (none : Option (RV × List D)) = some _ from e)), fun _ _ _ _ _ _ _ _ _ _ _ _ _ ⟨_, _, _, _, _, _, e, _⟩ => nomatch (show (none : Option (RV × List D)) = some _ from e)⟩
  | n + 1 => by
    have C__law_same : Cal P w K mg base (0 + n) "_law_same" (R__law_same n) := ⟨⟨f, fd, _, ok__law_same F G Bd B Gc  n, G, F.kp, Bd⟩⟩
    
    refine fn_okD (st := top 23) (k := 0 + n) F sc__law_same (fun cdv A outer s H E hr => ?_)
    have nd := sc__law_same.nd
    have hu := hu65 hr
    exact (eb_cons (es_if (et_val (ev_isi (by rfl) B.isinstance bb_isinstance (by rfl) B.bool bb_bool (ev_b (pv 1))))
      (eb_one (es_ret (ev_and (ev_isi (by rfl) B.isinstance bb_isinstance (by rfl) B.bool bb_bool (ev_b (pv 0))) (ev_bool1 (ev_cmp (o_eq (hu64 hr)) (ev_b (pv 0)) (ev_b (pv 1)) (nomark _))))))
      eb_nil)
      (eb_cons (es_if (et_val (ev_isi (by rfl) B.isinstance bb_isinstance (by rfl) B.int bb_int (ev_b (pv 1))))
      (eb_one (es_ret (ev_and (ev_isi (by rfl) B.isinstance bb_isinstance (by rfl) B.int bb_int (ev_b (pv 0))) (ev_and (ev_not (ev_isi (by rfl) B.isinstance bb_isinstance (by rfl) B.bool bb_bool (ev_b (pv 0)))) (ev_bool1 (ev_cmp (o_eq (hu64 hr)) (ev_b (pv 0)) (ev_b (pv 1)) (nomark _)))))))
      eb_nil)
      (eb_cons (es_if (et_val (ev_isi (by rfl) B.isinstance bb_isinstance (by rfl) B.str bb_str (ev_b (pv 1))))
      (eb_one (es_ret (ev_and (ev_isi (by rfl) B.isinstance bb_isinstance (by rfl) B.str bb_str (ev_b (pv 0))) (ev_bool1 (ev_cmp (o_eq (hu64 hr)) (ev_b (pv 0)) (ev_b (pv 1)) (nomark _))))))
      eb_nil)
      (eb_cons (es_if (et_cmp o_is (ev_b (pv 1)) ev_non (nomark _))
      (eb_one (es_ret (ev_cmp o_is (ev_b (pv 0)) ev_non (nomark _))))
      eb_nil)
      (eb_cons (es_if (ew_t (ew_or (et_not (et_val (ev_isi (by rfl) B.isinstance bb_isinstance (by rfl) B.tuple bb_tuple (ev_b (pv 0))))) (ew_or1 (et_cmp (o_ne (hu64 hr)) (ev_blt c_len (by rfl) B.len bb_len (ea_cons (ev_b (pv 0)) ea_nil)) (ev_blt c_len (by rfl) B.len bb_len (ea_cons (ev_b (pv 1)) ea_nil)) (nomark _)))))
      (eb_one (es_ret ev_bl))
      eb_nil)
      (eb_cons (es_for PassesOwn.never rfl (ei_rg1 (by rfl) B.range (ea_cons (ev_blt c_len (by rfl) B.len bb_len (ea_cons (ev_b (pv 1)) ea_nil)) ea_nil)) (eg_name (i := 2) (pg_name (i := 2) nd rfl (Or.inl rfl)))
      (eb_one (es_if (et_not (et_val (ev_call C__law_same hr (by rfl) (ea_cons (ev_ix x_ix (ev_b (pv 0)) (ev_b (pv 2)) (by intro _ _; rfl)) (ea_cons (ev_ix x_ix (ev_b (pv 1)) (ev_b (pv 2)) (by intro _ _; rfl)) ea_nil)))))
      (eb_one (es_ret ev_bl))
      eb_nil)))
      (eb_one (es_ret ev_bl))))))))
theorem sc__law_lowest : FnScope ["n", "d", "one", "other"] ["n", "d"] (defScope (top 24)) := ⟨rfl, rfl, rfl, by decide +kernel, rfl, by decide +kernel, by decide +kernel⟩
theorem ok__law_lowest {f : Addr} {fd : FuncData} (F : FunD K "_law_lowest" "_law_lowest" (defArgs (top 24)) (defBody (top 24)) (defScope (top 24)) [] [] f fd) (B : Bl mg) (Gc : mg "gcd" = some (.builtin "math.gcd"))  : FnOk P w K mg base CX0 1 f fd ["n", "d"] (spF K F__law_lowest) := by
  
  refine fn_okD (st := top 24) (k := 0) F sc__law_lowest (fun cdv A outer s H E hr => ?_)
  have nd := sc__law_lowest.nd
  have hu := hu65 hr
  exact (eb_cons (es_par (i := 2) (j := 3) rfl nd rfl rfl (by decide) rfl rfl (ea_cons (ev_blt c_abs (by rfl) B.abs bb_abs (ea_cons (ev_b (pv 0)) ea_nil)) (ea_cons (ev_blt c_abs (by rfl) B.abs bb_abs (ea_cons (ev_b (pv 1)) ea_nil)) ea_nil)))
      (eb_cons (es_while WFUEL PassesOwn.never (et_cmp o_gt (ev_b (pv 3)) ev_int (nomark _))
      (eb_one (es_par (i := 2) (j := 3) rfl nd rfl rfl (by decide) rfl rfl (ea_cons (ev_v (pv 3)) (ea_cons (ev_bin o_mod (ev_bty c_int (by rfl) B.int bb_int (ea_cons (ev_b (pv 2)) ea_nil)) (ev_b (pv 3))) ea_nil)))))
      (eb_cons (es_if (et_cmp o_lt (ev_b (pv 1)) ev_int (nomark _))
      (eb_one (es_set (i := 2) nd rfl (Or.inl rfl) (ev_un o_neg (ev_b (pv 2)))))
      eb_nil)
      (eb_one (es_ret (ev_tup (ea_cons (ev_bin o_fdiv (ev_b (pv 0)) (ev_b (pv 2))) (ea_cons (ev_bin o_fdiv (ev_b (pv 1)) (ev_b (pv 2))) ea_nil))))))))
theorem sc__law_are_chances_right : FnScope ["n", "c", "k", "b", "none", "wrong", "every"] ["n", "c", "k"] (defScope (top 25)) := ⟨rfl, rfl, rfl, by decide +kernel, rfl, by decide +kernel, by decide +kernel⟩
theorem ok__law_are_chances_right {f : Addr} {fd : FuncData} (F : FunD K "_law_are_chances_right" "_law_are_chances_right" (defArgs (top 25)) (defBody (top 25)) (defScope (top 25)) [] [] f fd) (B : Bl mg) (Gc : mg "gcd" = some (.builtin "math.gcd")) (C_minus_of : Cal P w K mg base 2 "minus_of" F_minus_of) (C_is_less : Cal P w K mg base 1 "is_less" F_is_less) (C_chance_found : Cal P w K mg base 2 "chance_found" F_chance_found) (C_chance_none_found : Cal P w K mg base 3 "chance_none_found" F_chance_none_found) (C_mean_found : Cal P w K mg base 2 "mean_found" F_mean_found) (C_chance_right : Cal P w K mg base 2 "chance_right" F_chance_right) (C_chance_pass : Cal P w K mg base 3 "chance_pass" F_chance_pass) (C_mean_right : Cal P w K mg base 2 "mean_right" F_mean_right) (C__law_same : Cal P w K mg base 8 "_law_same" F__law_same) : FnOk P w K mg base CX0 9 f fd ["n", "c", "k"] (spF K F__law_are_chances_right) := by
  have C_minus_of := C_minus_of.mono (show 2 ≤ 8 by omega)
  have C_is_less := C_is_less.mono (show 1 ≤ 8 by omega)
  have C_chance_found := C_chance_found.mono (show 2 ≤ 8 by omega)
  have C_chance_none_found := C_chance_none_found.mono (show 3 ≤ 8 by omega)
  have C_mean_found := C_mean_found.mono (show 2 ≤ 8 by omega)
  have C_chance_right := C_chance_right.mono (show 2 ≤ 8 by omega)
  have C_chance_pass := C_chance_pass.mono (show 3 ≤ 8 by omega)
  have C_mean_right := C_mean_right.mono (show 2 ≤ 8 by omega)
  have C__law_same := C__law_same.mono (show 8 ≤ 8 by omega)
  refine fn_okD (st := top 25) (k := 8) F sc__law_are_chances_right (fun cdv A outer s H E hr => ?_)
  have nd := sc__law_are_chances_right.nd
  have hu := hu65 hr
  exact (eb_cons (es_set (i := 3) nd rfl (Or.inl rfl) (ev_bin o_fdiv (ev_b (pv 0)) (ev_b (pv 1))))
      (eb_cons (es_if (et_not (et_val (ev_call C__law_same hr (by rfl) (ea_cons (ev_call C_mean_found hr (by rfl) (ea_cons (ev_v (pv 0)) (ea_cons (ev_v (pv 3)) (ea_cons (ev_v (pv 2)) ea_nil)))) (ea_cons (ev_call C_mean_right hr (by rfl) (ea_cons (ev_v (pv 2)) (ea_cons (ev_v (pv 1)) ea_nil))) ea_nil)))))
      (eb_one (es_ret ev_bl))
      eb_nil)
      (eb_cons (es_set (i := 4) nd rfl (Or.inl rfl) (ev_call C_chance_none_found hr (by rfl) (ea_cons (ev_v (pv 0)) (ea_cons (ev_v (pv 3)) (ea_cons (ev_v (pv 2)) ea_nil)))))
      (eb_cons (es_set (i := 5) nd rfl (Or.inl rfl) (ev_call C_chance_right hr (by rfl) (ea_cons (ev_v (pv 2)) (ea_cons (ev_v (pv 1)) (ea_cons ev_int ea_nil)))))
      (eb_cons (es_if (ew_t (ew_or (et_cmp o_notB (ev_call C_is_less hr (by rfl) (ea_cons (ev_v (pv 5)) (ea_cons (ev_v (pv 4)) ea_nil))) ev_bl (nomark _)) (ew_or1 (et_cmp (o_ne (hu64 hr)) (ev_cmp (o_eq (hu64 hr)) (ev_b (pv 4)) (ev_b (pv 5)) (nomark _)) (ev_cmp o_lt (ev_b (pv 2)) ev_int (nomark _)) (nomark _)))))
      (eb_one (es_ret ev_bl))
      eb_nil)
      (eb_cons (es_set (i := 6) nd rfl (Or.inl rfl) (ev_call C_chance_found hr (by rfl) (ea_cons (ev_v (pv 0)) (ea_cons (ev_v (pv 3)) (ea_cons (ev_v (pv 2)) (ea_cons (ev_v (pv 2)) ea_nil))))))
      (eb_cons (es_if (ew_t (ew_or (et_cmp o_notB (ev_call C_is_less hr (by rfl) (ea_cons (ev_call C_chance_right hr (by rfl) (ea_cons (ev_v (pv 2)) (ea_cons (ev_v (pv 1)) (ea_cons (ev_v (pv 2)) ea_nil)))) (ea_cons (ev_v (pv 6)) ea_nil))) ev_bl (nomark _)) (ew_or1 (ew_t (ew_and (et_cmp o_lt (ev_b (pv 2)) ev_int (nomark _)) (ew_and1 (et_cmp (o_ne (hu64 hr)) (ev_b (pv 6)) (ev_call C_chance_right hr (by rfl) (ea_cons (ev_v (pv 2)) (ea_cons (ev_v (pv 1)) (ea_cons (ev_v (pv 2)) ea_nil)))) (nomark _))))))))
      (eb_one (es_ret ev_bl))
      eb_nil)
      (eb_cons (es_if (ew_t (ew_and (et_cmp o_gt (ev_b (pv 2)) ev_int (nomark _)) (ew_and1 (et_cmp o_notB (ev_call C_is_less hr (by rfl) (ea_cons (ev_call C_minus_of hr (by rfl) (ea_cons (ev_tup (ea_cons ev_int (ea_cons ev_int ea_nil))) (ea_cons (ev_v (pv 4)) ea_nil))) (ea_cons (ev_call C_chance_pass hr (by rfl) (ea_cons (ev_v (pv 2)) (ea_cons (ev_v (pv 1)) (ea_cons ev_int ea_nil)))) ea_nil))) ev_bl (nomark _)))))
      (eb_one (es_ret ev_bl))
      eb_nil)
      (eb_one (es_ret (ev_and (ev_call C__law_same hr (by rfl) (ea_cons (ev_call C_chance_found hr (by rfl) (ea_cons (ev_v (pv 0)) (ea_cons (ev_v (pv 3)) (ea_cons (ev_v (pv 0)) (ea_cons (ev_v (pv 3)) ea_nil))))) (ea_cons (ev_tup (ea_cons ev_int (ea_cons ev_int ea_nil))) ea_nil))) (ev_bool1 (ev_call C__law_same hr (by rfl) (ea_cons (ev_call C_chance_found hr (by rfl) (ea_cons (ev_v (pv 0)) (ea_cons (ev_v (pv 3)) (ea_cons (ev_v (pv 2)) (ea_cons (ev_bin o_add (ev_b (pv 3)) ev_int) ea_nil))))) (ea_cons (ev_tup (ea_cons ev_int (ea_cons ev_int ea_nil))) ea_nil)))))))))))))))
theorem sc__law_are_needed_right : FnScope ["draws", "n", "c", "guesses", "chance", "looks"] ["draws", "n", "c"] (defScope (top 26)) := ⟨rfl, rfl, rfl, by decide +kernel, rfl, by decide +kernel, by decide +kernel⟩
theorem ok__law_are_needed_right {f : Addr} {fd : FuncData} (F : FunD K "_law_are_needed_right" "_law_are_needed_right" (defArgs (top 26)) (defBody (top 26)) (defScope (top 26)) [] [] f fd) (B : Bl mg) (Gc : mg "gcd" = some (.builtin "math.gcd")) (C_is_less : Cal P w K mg base 1 "is_less" F_is_less) (C_chance_none_found : Cal P w K mg base 3 "chance_none_found" F_chance_none_found) (C_looks_needed : Cal P w K mg base 5 "looks_needed" F_looks_needed) (C_chance_right : Cal P w K mg base 2 "chance_right" F_chance_right) (C__law_take : Cal P w K mg base 1 "_law_take" F__law_take) : FnOk P w K mg base CX0 6 f fd ["draws", "n", "c"] (spF K F__law_are_needed_right) := by
  have C_is_less := C_is_less.mono (show 1 ≤ 5 by omega)
  have C_chance_none_found := C_chance_none_found.mono (show 3 ≤ 5 by omega)
  have C_looks_needed := C_looks_needed.mono (show 5 ≤ 5 by omega)
  have C_chance_right := C_chance_right.mono (show 2 ≤ 5 by omega)
  have C__law_take := C__law_take.mono (show 1 ≤ 5 by omega)
  refine fn_okD (st := top 26) (k := 5) F sc__law_are_needed_right (fun cdv A outer s H E hr => ?_)
  have nd := sc__law_are_needed_right.nd
  have hu := hu65 hr
  exact (eb_cons (es_set (i := 3) nd rfl (Or.inl rfl) (ev_call C__law_take hr (by rfl) (ea_cons (ev_b (pv 0)) (ea_cons (ev_bin o_add (ev_b (pv 1)) ev_int) ea_nil))))
      (eb_cons (es_set (i := 4) nd rfl (Or.inl rfl) (ev_call C_chance_right hr (by rfl) (ea_cons (ev_v (pv 3)) (ea_cons (ev_v (pv 2)) (ea_cons ev_int ea_nil)))))
      (eb_cons (es_set (i := 5) nd rfl (Or.inl rfl) (ev_call C_looks_needed hr (by rfl) (ea_cons (ev_v (pv 1)) (ea_cons (ev_bin o_fdiv (ev_b (pv 1)) (ev_b (pv 2))) (ea_cons (ev_v (pv 4)) ea_nil)))))
      (eb_cons (es_if (ew_t (ew_or (et_not (et_val (ev_isi (by rfl) B.isinstance bb_isinstance (by rfl) B.int bb_int (ev_b (pv 5))))) (ew_or (et_val (ev_isi (by rfl) B.isinstance bb_isinstance (by rfl) B.bool bb_bool (ev_b (pv 5)))) (ew_or1 (et_cmp o_gt (ev_b (pv 5)) (ev_b (pv 3)) (nomark _))))))
      (eb_one (es_ret ev_bl))
      eb_nil)
      (eb_one (es_ret (ev_or (ev_cmp (o_eq (hu64 hr)) (ev_b (pv 5)) ev_int (nomark _)) (ev_bool1 (ev_cmp o_isB (ev_call C_is_less hr (by rfl) (ea_cons (ev_v (pv 4)) (ea_cons (ev_call C_chance_none_found hr (by rfl) (ea_cons (ev_v (pv 1)) (ea_cons (ev_bin o_fdiv (ev_b (pv 1)) (ev_b (pv 2))) (ea_cons (ev_bin o_sub (ev_b (pv 5)) ev_int) ea_nil)))) ea_nil))) ev_bl (nomark _))))))))))
theorem sc__law_rows : FnScope ["n", "k", "back", "rows", "step", "longer", "row", "own"] ["n", "k", "back"] (defScope (top 27)) := ⟨rfl, rfl, rfl, by decide +kernel, rfl, by decide +kernel, by decide +kernel⟩
theorem ok__law_rows {f : Addr} {fd : FuncData} (F : FunD K "_law_rows" "_law_rows" (defArgs (top 27)) (defBody (top 27)) (defScope (top 27)) [] [] f fd) (B : Bl mg) (Gc : mg "gcd" = some (.builtin "math.gcd"))  : FnOk P w K mg base CX0 1 f fd ["n", "k", "back"] (spF K F__law_rows) := by
  
  refine fn_okD (st := top 27) (k := 0) F sc__law_rows (fun cdv A outer s H E hr => ?_)
  have nd := sc__law_rows.nd
  have hu := hu65 hr
  exact (eb_cons (es_set (i := 3) nd rfl (Or.inl rfl) (ev_lst (ea_cons (ev_tup ea_nil) ea_nil)))
      (eb_cons (es_for PassesOwn.never rfl (ei_rg1 (by rfl) B.range (ea_cons (ev_v (pv 1)) ea_nil)) (eg_name (i := 4) (pg_name (i := 4) nd rfl (Or.inl rfl)))
      (eb_cons (es_set (i := 5) nd rfl (Or.inl rfl) (ev_lst ea_nil))
      (eb_cons (es_for PassesOwn.never rfl (ei_seq (ev_v (pv 3))) (eg_name (i := 6) (pg_name (i := 6) nd rfl (Or.inr rfl)))
      (eb_one (es_set (i := 5) nd rfl (Or.inl rfl) (ev_bin o_add (ev_b (pv 5)) (ev_lc [("own", 7)] rfl nd (ei_rg1 (by rfl) B.range (ea_cons (ev_v (pv 0)) ea_nil)) (blkOk_by (by kernel_rfl)) (by decide) (fun _ _ _ _ _ => (eg_name (i := 7) (pg_name (i := 7) nd rfl (Or.inl rfl)))) (fun _ _ _ _ _ => (ets_one (ew_t (ew_or (et_val (ev_b (pv 2))) (ew_or1 (et_cmp (o_notin hu) (ev_b (pv 7)) (ev_b (pv 6)) (by with_unfolding_all rfl))))))) (fun _ _ _ _ _ => (ev_bin o_add (ev_b (pv 6)) (ev_tup (ea_cons (ev_v (pv 7)) ea_nil)))))))))
      (eb_one (es_set (i := 3) nd rfl (Or.inl rfl) (ev_v (pv 5)))))))
      (eb_one (es_ret (ev_m (pv 3))))))
theorem sc__law_are_rows_right : FnScope ["draws", "c", "m", "n", "k", "back", "rows", "many", "fit", "due", "told", "row", "own"] ["draws"] (defScope (top 28)) := ⟨rfl, rfl, rfl, by decide +kernel, rfl, by decide +kernel, by decide +kernel⟩
theorem ok__law_are_rows_right {f : Addr} {fd : FuncData} (F : FunD K "_law_are_rows_right" "_law_are_rows_right" (defArgs (top 28)) (defBody (top 28)) (defScope (top 28)) [] [] f fd) (B : Bl mg) (Gc : mg "gcd" = some (.builtin "math.gcd")) (C_chance_found : Cal P w K mg base 2 "chance_found" F_chance_found) (C_chance_right : Cal P w K mg base 2 "chance_right" F_chance_right) (C__law_take : Cal P w K mg base 1 "_law_take" F__law_take) (C__law_same : Cal P w K mg base 8 "_law_same" F__law_same) (C__law_lowest : Cal P w K mg base 1 "_law_lowest" F__law_lowest) (C__law_rows : Cal P w K mg base 1 "_law_rows" F__law_rows) : FnOk P w K mg base CX0 9 f fd ["draws"] (spF K F__law_are_rows_right) := by
  have C_chance_found := C_chance_found.mono (show 2 ≤ 8 by omega)
  have C_chance_right := C_chance_right.mono (show 2 ≤ 8 by omega)
  have C__law_take := C__law_take.mono (show 1 ≤ 8 by omega)
  have C__law_same := C__law_same.mono (show 8 ≤ 8 by omega)
  have C__law_lowest := C__law_lowest.mono (show 1 ≤ 8 by omega)
  have C__law_rows := C__law_rows.mono (show 1 ≤ 8 by omega)
  refine fn_okD (st := top 28) (k := 8) F sc__law_are_rows_right (fun cdv A outer s H E hr => ?_)
  have nd := sc__law_are_rows_right.nd
  have hu := hu65 hr
  exact (eb_cons (es_set (i := 1) nd rfl (Or.inl rfl) (ev_bin o_add ev_int (ev_call C__law_take hr (by rfl) (ea_cons (ev_b (pv 0)) (ea_cons ev_int ea_nil)))))
      (eb_cons (es_set (i := 2) nd rfl (Or.inr rfl) (ev_bin o_add ev_int (ev_call C__law_take hr (by rfl) (ea_cons (ev_b (pv 0)) (ea_cons ev_int ea_nil)))))
      (eb_cons (es_set (i := 3) nd rfl (Or.inl rfl) (ev_bin o_mul (ev_b (pv 1)) (ev_b (pv 2))))
      (eb_cons (es_set (i := 4) nd rfl (Or.inl rfl) (ev_blt (c_min2 rfl) (by rfl) B.min bb_min (ea_cons (ev_call C__law_take hr (by rfl) (ea_cons (ev_b (pv 0)) (ea_cons ev_int ea_nil))) (ea_cons (ev_b (pv 3)) ea_nil))))
      (eb_cons (es_for PassesOwn.never rfl (ei_seq (ev_lst (ea_cons ev_bl (ea_cons ev_bl ea_nil)))) (eg_name (i := 5) (pg_name (i := 5) nd rfl (Or.inl rfl)))
      (eb_cons (es_set (i := 6) nd rfl (Or.inl rfl) (ev_call C__law_rows hr (by rfl) (ea_cons (ev_v (pv 3)) (ea_cons (ev_v (pv 4)) (ea_cons (ev_v (pv 5)) ea_nil)))))
      (eb_one (es_for PassesOwn.never rfl (ei_rg1 (by rfl) B.range (ea_cons (ev_bin o_add (ev_b (pv 4)) ev_int) ea_nil)) (eg_name (i := 7) (pg_name (i := 7) nd rfl (Or.inr rfl)))
      (eb_cons (es_set (i := 8) nd rfl (Or.inl rfl) (ev_blt c_len (by rfl) B.len bb_len (ea_cons (ev_lc [("row", 11)] rfl nd (ei_seq (ev_v (pv 6))) (blkOk_by (by kernel_rfl)) (by decide) (fun _ _ _ _ _ => (eg_name (i := 11) (pg_name (i := 11) nd rfl (Or.inl rfl)))) (fun _ _ _ _ _ => (ets_one (et_cmp (o_eq (hu64 hr)) (ev_blt c_len (by rfl) B.len bb_len (ea_cons (ev_lc [("own", 12)] rfl nd (ei_seq (ev_v (pv 11))) (blkOk_by (by kernel_rfl)) (by decide) (fun _ _ _ _ _ => (eg_name (i := 12) (pg_name (i := 12) nd rfl (Or.inl rfl)))) (fun _ _ _ _ _ => (ets_one (et_cmp o_lt (ev_b (pv 12)) (ev_b (pv 2)) (nomark _)))) (fun _ _ _ _ _ => (ev_v (pv 12)))) ea_nil)) (ev_b (pv 7)) (nomark _)))) (fun _ _ _ _ _ => (ev_v (pv 11)))) ea_nil)))
      (eb_cons (es_set (i := 9) nd rfl (Or.inl rfl) (ev_call C__law_lowest hr (by rfl) (ea_cons (ev_v (pv 8)) (ea_cons (ev_blt c_len (by rfl) B.len bb_len (ea_cons (ev_b (pv 6)) ea_nil)) ea_nil))))
      (eb_cons (es_set (i := 10) nd rfl (Or.inl rfl) (ev_call C_chance_found hr (by rfl) (ea_cons (ev_v (pv 3)) (ea_cons (ev_v (pv 2)) (ea_cons (ev_v (pv 4)) (ea_cons (ev_v (pv 7)) ea_nil))))))
      (eb_cons (es_if (et_val (ev_b (pv 5)))
      (eb_one (es_set (i := 10) nd rfl (Or.inl rfl) (ev_call C_chance_right hr (by rfl) (ea_cons (ev_v (pv 4)) (ea_cons (ev_v (pv 1)) (ea_cons (ev_v (pv 7)) ea_nil))))))
      eb_nil)
      (eb_one (es_if (et_not (et_val (ev_call C__law_same hr (by rfl) (ea_cons (ev_v (pv 10)) (ea_cons (ev_v (pv 9)) ea_nil)))))
      (eb_one (es_ret ev_bl))
      eb_nil))))))))))
      (eb_one (es_ret ev_bl)))))))
theorem sc_law : FnScope ["script", "draws", "turn", "c", "n"] ["script"] (defScope (top 29)) := ⟨rfl, rfl, rfl, by decide +kernel, rfl, by decide +kernel, by decide +kernel⟩
theorem ok_law {f : Addr} {fd : FuncData} (F : FunD K "law" "law" (defArgs (top 29)) (defBody (top 29)) (defScope (top 29)) [] [] f fd) (B : Bl mg) (Gc : mg "gcd" = some (.builtin "math.gcd")) (C_chance_found : Cal P w K mg base 2 "chance_found" F_chance_found) (C_chance_none_found : Cal P w K mg base 3 "chance_none_found" F_chance_none_found) (C_looks_needed : Cal P w K mg base 5 "looks_needed" F_looks_needed) (C_mean_found : Cal P w K mg base 2 "mean_found" F_mean_found) (C_chance_right : Cal P w K mg base 2 "chance_right" F_chance_right) (C__law_draws : Cal P w K mg base 1 "_law_draws" F__law_draws) (C__law_take : Cal P w K mg base 1 "_law_take" F__law_take) (C__law_same : Cal P w K mg base 8 "_law_same" F__law_same) (C__law_are_chances_right : Cal P w K mg base 9 "_law_are_chances_right" F__law_are_chances_right) (C__law_are_needed_right : Cal P w K mg base 6 "_law_are_needed_right" F__law_are_needed_right) (C__law_are_rows_right : Cal P w K mg base 9 "_law_are_rows_right" F__law_are_rows_right) : FnOk P w K mg base CX0 10 f fd ["script"] (spF K F_law) := by
  have C_chance_found := C_chance_found.mono (show 2 ≤ 9 by omega)
  have C_chance_none_found := C_chance_none_found.mono (show 3 ≤ 9 by omega)
  have C_looks_needed := C_looks_needed.mono (show 5 ≤ 9 by omega)
  have C_mean_found := C_mean_found.mono (show 2 ≤ 9 by omega)
  have C_chance_right := C_chance_right.mono (show 2 ≤ 9 by omega)
  have C__law_draws := C__law_draws.mono (show 1 ≤ 9 by omega)
  have C__law_take := C__law_take.mono (show 1 ≤ 9 by omega)
  have C__law_same := C__law_same.mono (show 8 ≤ 9 by omega)
  have C__law_are_chances_right := C__law_are_chances_right.mono (show 9 ≤ 9 by omega)
  have C__law_are_needed_right := C__law_are_needed_right.mono (show 6 ≤ 9 by omega)
  have C__law_are_rows_right := C__law_are_rows_right.mono (show 9 ≤ 9 by omega)
  refine fn_okD (st := top 29) (k := 9) F sc_law (fun cdv A outer s H E hr => ?_)
  have nd := sc_law.nd
  have hu := hu65 hr
  exact (eb_cons (es_set (i := 1) nd rfl (Or.inl rfl) (ev_call C__law_draws hr (by rfl) (ea_cons (ev_v (pv 0)) (ea_cons ev_int ea_nil))))
      (eb_cons (es_for PassesOwn.never rfl (ei_rg1 (by rfl) B.range (ea_cons ev_int ea_nil)) (eg_name (i := 2) (pg_name (i := 2) nd rfl (Or.inl rfl)))
      (eb_cons (es_set (i := 3) nd rfl (Or.inl rfl) (ev_bin o_add ev_int (ev_call C__law_take hr (by rfl) (ea_cons (ev_b (pv 1)) (ea_cons ev_int ea_nil)))))
      (eb_cons (es_set (i := 4) nd rfl (Or.inl rfl) (ev_bin o_mul (ev_b (pv 3)) (ev_bin o_add ev_int (ev_call C__law_take hr (by rfl) (ea_cons (ev_b (pv 1)) (ea_cons (ev_bin o_fdiv ev_int (ev_b (pv 3))) ea_nil))))))
      (eb_one (es_if (ew_t (ew_or (et_not (et_val (ev_call C__law_are_chances_right hr (by rfl) (ea_cons (ev_v (pv 4)) (ea_cons (ev_v (pv 3)) (ea_cons (ev_call C__law_take hr (by rfl) (ea_cons (ev_b (pv 1)) (ea_cons (ev_bin o_add (ev_b (pv 4)) ev_int) ea_nil))) ea_nil)))))) (ew_or1 (et_not (et_val (ev_call C__law_are_needed_right hr (by rfl) (ea_cons (ev_b (pv 1)) (ea_cons (ev_v (pv 4)) (ea_cons (ev_v (pv 3)) ea_nil)))))))))
      (eb_one (es_ret ev_bl))
      eb_nil)))))
      (eb_cons (es_if (et_not (et_val (ev_call C__law_are_rows_right hr (by rfl) (ea_cons (ev_b (pv 1)) ea_nil))))
      (eb_one (es_ret ev_bl))
      eb_nil)
      (eb_cons (es_if (ew_t (ew_or (et_not (et_val (ev_call C__law_same hr (by rfl) (ea_cons (ev_call C_chance_none_found hr (by rfl) (ea_cons ev_int (ea_cons ev_int (ea_cons ev_int ea_nil)))) (ea_cons (ev_tup (ea_cons ev_int (ea_cons ev_int ea_nil))) ea_nil))))) (ew_or (et_not (et_val (ev_call C__law_same hr (by rfl) (ea_cons (ev_call C_chance_right hr (by rfl) (ea_cons ev_int (ea_cons ev_int (ea_cons ev_int ea_nil)))) (ea_cons (ev_tup (ea_cons ev_int (ea_cons ev_int ea_nil))) ea_nil))))) (ew_or1 (et_not (et_val (ev_call C__law_same hr (by rfl) (ea_cons (ev_call C_mean_found hr (by rfl) (ea_cons ev_int (ea_cons ev_int (ea_cons ev_int ea_nil)))) (ea_cons (ev_tup (ea_cons ev_int (ea_cons ev_int ea_nil))) ea_nil)))))))))
      (eb_one (es_ret ev_bl))
      eb_nil)
      (eb_one (es_ret (ev_and (ev_call C__law_same hr (by rfl) (ea_cons (ev_call C_looks_needed hr (by rfl) (ea_cons ev_int (ea_cons ev_int (ea_cons (ev_tup (ea_cons ev_int (ea_cons ev_int ea_nil))) ea_nil)))) (ea_cons ev_int ea_nil))) (ev_and (ev_call C__law_same hr (by rfl) (ea_cons (ev_call C_chance_found hr (by rfl) (ea_cons ev_int (ea_cons ev_int (ea_cons ev_int (ea_cons ev_int ea_nil))))) (ea_cons (ev_tup (ea_cons ev_int (ea_cons ev_int ea_nil))) ea_nil))) (ev_bool1 (ev_call C__law_are_chances_right hr (by rfl) (ea_cons ev_int (ea_cons ev_int (ea_cons ev_int ea_nil)))))))))))))
end
def d_fraction : He.DefD := ⟨("fraction", none), "fraction", "fraction", defArgs (top 2), defBody (top 2), defScope (top 2), [], []⟩
def d_plus_of : He.DefD := ⟨("plus_of", none), "plus_of", "plus_of", defArgs (top 3), defBody (top 3), defScope (top 3), [], []⟩
def d_minus_of : He.DefD := ⟨("minus_of", none), "minus_of", "minus_of", defArgs (top 4), defBody (top 4), defScope (top 4), [], []⟩
def d_is_less : He.DefD := ⟨("is_less", none), "is_less", "is_less", defArgs (top 5), defBody (top 5), defScope (top 5), [], []⟩
def d_count_choices : He.DefD := ⟨("count_choices", none), "count_choices", "count_choices", defArgs (top 7), defBody (top 7), defScope (top 7), [], []⟩
def d_chance_found : He.DefD := ⟨("chance_found", none), "chance_found", "chance_found", defArgs (top 9), defBody (top 9), defScope (top 9), [], []⟩
def d_chance_none_found : He.DefD := ⟨("chance_none_found", none), "chance_none_found", "chance_none_found", defArgs (top 10), defBody (top 10), defScope (top 10), [], []⟩
def d_is_enough : He.DefD := ⟨("is_enough", none), "is_enough", "is_enough", defArgs (top 11), defBody (top 11), defScope (top 11), [], []⟩
def d_looks_needed : He.DefD := ⟨("looks_needed", none), "looks_needed", "looks_needed", defArgs (top 12), defBody (top 12), defScope (top 12), [], []⟩
def d_mean_found : He.DefD := ⟨("mean_found", none), "mean_found", "mean_found", defArgs (top 13), defBody (top 13), defScope (top 13), [], []⟩
def d_power : He.DefD := ⟨("power", none), "power", "power", defArgs (top 15), defBody (top 15), defScope (top 15), [], []⟩
def d_ways_to_choose : He.DefD := ⟨("ways_to_choose", none), "ways_to_choose", "ways_to_choose", defArgs (top 16), defBody (top 16), defScope (top 16), [], []⟩
def d_chance_right : He.DefD := ⟨("chance_right", none), "chance_right", "chance_right", defArgs (top 17), defBody (top 17), defScope (top 17), [], []⟩
def d_chance_pass : He.DefD := ⟨("chance_pass", none), "chance_pass", "chance_pass", defArgs (top 18), defBody (top 18), defScope (top 18), [], []⟩
def d_mean_right : He.DefD := ⟨("mean_right", none), "mean_right", "mean_right", defArgs (top 19), defBody (top 19), defScope (top 19), [], []⟩
def d__law_draws : He.DefD := ⟨("_law_draws", none), "_law_draws", "_law_draws", defArgs (top 21), defBody (top 21), defScope (top 21), [], []⟩
def d__law_take : He.DefD := ⟨("_law_take", none), "_law_take", "_law_take", defArgs (top 22), defBody (top 22), defScope (top 22), [], []⟩
def d__law_same : He.DefD := ⟨("_law_same", none), "_law_same", "_law_same", defArgs (top 23), defBody (top 23), defScope (top 23), [], []⟩
def d__law_lowest : He.DefD := ⟨("_law_lowest", none), "_law_lowest", "_law_lowest", defArgs (top 24), defBody (top 24), defScope (top 24), [], []⟩
def d__law_are_chances_right : He.DefD := ⟨("_law_are_chances_right", none), "_law_are_chances_right", "_law_are_chances_right", defArgs (top 25), defBody (top 25), defScope (top 25), [], []⟩
def d__law_are_needed_right : He.DefD := ⟨("_law_are_needed_right", none), "_law_are_needed_right", "_law_are_needed_right", defArgs (top 26), defBody (top 26), defScope (top 26), [], []⟩
def d__law_rows : He.DefD := ⟨("_law_rows", none), "_law_rows", "_law_rows", defArgs (top 27), defBody (top 27), defScope (top 27), [], []⟩
def d__law_are_rows_right : He.DefD := ⟨("_law_are_rows_right", none), "_law_are_rows_right", "_law_are_rows_right", defArgs (top 28), defBody (top 28), defScope (top 28), [], []⟩
def d_law : He.DefD := ⟨("law", none), "law", "law", defArgs (top 29), defBody (top 29), defScope (top 29), [], []⟩
def fn : List He.DefD := [d_fraction, d_plus_of, d_minus_of, d_is_less, d_count_choices, d_chance_found, d_chance_none_found, d_is_enough, d_looks_needed, d_mean_found, d_power, d_ways_to_choose, d_chance_right, d_chance_pass, d_mean_right, d__law_draws, d__law_take, d__law_same, d__law_lowest, d__law_are_chances_right, d__law_are_needed_right, d__law_rows, d__law_are_rows_right, d_law]
def fa : List He.Fa := [.glo "fraction", .glo "plus_of", .glo "minus_of", .glo "is_less", .glo "count_choices", .glo "chance_found", .glo "chance_none_found", .glo "is_enough", .glo "looks_needed", .glo "mean_found", .glo "power", .glo "ways_to_choose", .glo "chance_right", .glo "chance_pass", .glo "mean_right", .glo "_law_draws", .glo "_law_take", .glo "_law_same", .glo "_law_lowest", .glo "_law_are_chances_right", .glo "_law_are_needed_right", .glo "_law_rows", .glo "_law_are_rows_right", .glo "law", .free "len", .free "range", .free "abs", .free "int", .free "tuple", .free "sorted", .free "set", .free "isinstance", .free "list", .free "sum", .free "max", .free "min", .free "any", .free "all", .free "dict", .free "str", .free "bool"]
def loose : List PySem.Str := ["fraction", "plus_of", "minus_of", "is_less", "count_choices", "chance_found", "chance_none_found", "is_enough", "looks_needed", "mean_found", "power", "ways_to_choose", "chance_right", "chance_pass", "mean_right", "_law_draws", "_law_take", "_law_same", "_law_lowest", "_law_are_chances_right", "_law_are_needed_right", "_law_rows", "_law_are_rows_right", "gcd"]
abbrev R : PySem.W.OpenRow := PySem.W.OpenLaw.row PySem.Challenge.rw_papersdealt_k89_whole_looks_and_guesses
def ex (K : PySem.W.Frag) : Bool := match PySem.W.nsIn K mainGlobals "gcd" with | some (some (.builtin x)) => x == "math.gcd" | _ => false
abbrev hk : PySem.W.Hook := He.hookX 4 fa fn [] [] ex
def ob (s : PySem.W.SharedT) : He.AlX := He.obsX 4 fa fn [] [] ex (HandSHeadRun.getT s)
theorem ob_eq (s : PySem.W.SharedT) : ob s = hk.obs s.abs := He.obsX_eq (HandSHeadRun.getT_eq s)
theorem run (w : World) : HeadRun.RunEqI R (PySem.W.view R.prog [29]) hk ob 8000 loose w := by
  unfold HeadRun.RunEqI
  kernel_rfl
theorem gcd_ok {K : PySem.W.Frag} {h : Heap} {mg : Str → Option Value} (X : K.In h) (G : h.Ns mainGlobals mg) (c : ex K = true) : mg "gcd" = some (.builtin "math.gcd") := by
  unfold ex at c
  split at c
  · rename_i x e
    have : x = "math.gcd" := by simpa using c
    subst this
    exact PySem.W.mg_of X G e
  · cases c
theorem facts {P : Program} {w : World} {K : PySem.W.Frag} {h : Heap} {mg : Str → Option Value} {f : Addr} (X : K.In h) (G : h.Ns mainGlobals mg) (hfa : mg ("law" : Str) = some (.ref f)) (c : He.SaysD fa fn K) (Gc : mg "gcd" = some (.builtin "math.gcd")) :
    ∃ fd : FuncData, (∀ (s : Shared) (v : Value), BindsTo s fd ⟨[v], []⟩ [("script", v)]) ∧ ∀ base : Heap, K.In base → base.Ns mainGlobals mg → FnOk P w K mg base CX0 10 f fd ["script"] (spF K F_law) := by
  have B : Bl mg := ⟨He.free_ok X G (c.fact 24 (f := .free "len") rfl), He.free_ok X G (c.fact 25 (f := .free "range") rfl), He.free_ok X G (c.fact 26 (f := .free "abs") rfl), He.free_ok X G (c.fact 27 (f := .free "int") rfl), He.free_ok X G (c.fact 28 (f := .free "tuple") rfl), He.free_ok X G (c.fact 29 (f := .free "sorted") rfl), He.free_ok X G (c.fact 30 (f := .free "set") rfl), He.free_ok X G (c.fact 31 (f := .free "isinstance") rfl), He.free_ok X G (c.fact 32 (f := .free "list") rfl), He.free_ok X G (c.fact 33 (f := .free "sum") rfl), He.free_ok X G (c.fact 34 (f := .free "max") rfl), He.free_ok X G (c.fact 35 (f := .free "min") rfl), He.free_ok X G (c.fact 36 (f := .free "any") rfl), He.free_ok X G (c.fact 37 (f := .free "all") rfl), He.free_ok X G (c.fact 38 (f := .free "dict") rfl), He.free_ok X G (c.fact 39 (f := .free "str") rfl), He.free_ok X G (c.fact 40 (f := .free "bool") rfl)⟩
  obtain ⟨fd_fraction, H_fraction⟩ := c.def_ 0 (d := d_fraction) rfl
  have g_fraction := He.glo_ok X G (c.fact 0 (f := .glo "fraction") rfl)
  have b_fraction : Binds K fd_fraction ["n", "d"] [] := FunD.bindsN H_fraction fun _ _ _ _ _ _ us hl => match us, hl with | [_, _], _ => rfl
  obtain ⟨fd_plus_of, H_plus_of⟩ := c.def_ 1 (d := d_plus_of) rfl
  have g_plus_of := He.glo_ok X G (c.fact 1 (f := .glo "plus_of") rfl)
  have b_plus_of : Binds K fd_plus_of ["one", "other"] [] := FunD.bindsN H_plus_of fun _ _ _ _ _ _ us hl => match us, hl with | [_, _], _ => rfl
  obtain ⟨fd_minus_of, H_minus_of⟩ := c.def_ 2 (d := d_minus_of) rfl
  have g_minus_of := He.glo_ok X G (c.fact 2 (f := .glo "minus_of") rfl)
  have b_minus_of : Binds K fd_minus_of ["one", "other"] [] := FunD.bindsN H_minus_of fun _ _ _ _ _ _ us hl => match us, hl with | [_, _], _ => rfl
  obtain ⟨fd_is_less, H_is_less⟩ := c.def_ 3 (d := d_is_less) rfl
  have g_is_less := He.glo_ok X G (c.fact 3 (f := .glo "is_less") rfl)
  have b_is_less : Binds K fd_is_less ["one", "other"] [] := FunD.bindsN H_is_less fun _ _ _ _ _ _ us hl => match us, hl with | [_, _], _ => rfl
  obtain ⟨fd_count_choices, H_count_choices⟩ := c.def_ 4 (d := d_count_choices) rfl
  have g_count_choices := He.glo_ok X G (c.fact 4 (f := .glo "count_choices") rfl)
  have b_count_choices : Binds K fd_count_choices ["n", "k"] [] := FunD.bindsN H_count_choices fun _ _ _ _ _ _ us hl => match us, hl with | [_, _], _ => rfl
  obtain ⟨fd_chance_found, H_chance_found⟩ := c.def_ 5 (d := d_chance_found) rfl
  have g_chance_found := He.glo_ok X G (c.fact 5 (f := .glo "chance_found") rfl)
  have b_chance_found : Binds K fd_chance_found ["n", "b", "k", "found"] [] := FunD.bindsN H_chance_found fun _ _ _ _ _ _ us hl => match us, hl with | [_, _, _, _], _ => rfl
  obtain ⟨fd_chance_none_found, H_chance_none_found⟩ := c.def_ 6 (d := d_chance_none_found) rfl
  have g_chance_none_found := He.glo_ok X G (c.fact 6 (f := .glo "chance_none_found") rfl)
  have b_chance_none_found : Binds K fd_chance_none_found ["n", "b", "k"] [] := FunD.bindsN H_chance_none_found fun _ _ _ _ _ _ us hl => match us, hl with | [_, _, _], _ => rfl
  obtain ⟨fd_is_enough, H_is_enough⟩ := c.def_ 7 (d := d_is_enough) rfl
  have g_is_enough := He.glo_ok X G (c.fact 7 (f := .glo "is_enough") rfl)
  have b_is_enough : Binds K fd_is_enough ["n", "b", "k", "chance"] [] := FunD.bindsN H_is_enough fun _ _ _ _ _ _ us hl => match us, hl with | [_, _, _, _], _ => rfl
  obtain ⟨fd_looks_needed, H_looks_needed⟩ := c.def_ 8 (d := d_looks_needed) rfl
  have g_looks_needed := He.glo_ok X G (c.fact 8 (f := .glo "looks_needed") rfl)
  have b_looks_needed : Binds K fd_looks_needed ["n", "b", "chance"] [] := FunD.bindsN H_looks_needed fun _ _ _ _ _ _ us hl => match us, hl with | [_, _, _], _ => rfl
  obtain ⟨fd_mean_found, H_mean_found⟩ := c.def_ 9 (d := d_mean_found) rfl
  have g_mean_found := He.glo_ok X G (c.fact 9 (f := .glo "mean_found") rfl)
  have b_mean_found : Binds K fd_mean_found ["n", "b", "k"] [] := FunD.bindsN H_mean_found fun _ _ _ _ _ _ us hl => match us, hl with | [_, _, _], _ => rfl
  obtain ⟨fd_power, H_power⟩ := c.def_ 10 (d := d_power) rfl
  have g_power := He.glo_ok X G (c.fact 10 (f := .glo "power") rfl)
  have b_power : Binds K fd_power ["number", "k"] [] := FunD.bindsN H_power fun _ _ _ _ _ _ us hl => match us, hl with | [_, _], _ => rfl
  obtain ⟨fd_ways_to_choose, H_ways_to_choose⟩ := c.def_ 11 (d := d_ways_to_choose) rfl
  have g_ways_to_choose := He.glo_ok X G (c.fact 11 (f := .glo "ways_to_choose") rfl)
  have b_ways_to_choose : Binds K fd_ways_to_choose ["n", "k"] [] := FunD.bindsN H_ways_to_choose fun _ _ _ _ _ _ us hl => match us, hl with | [_, _], _ => rfl
  obtain ⟨fd_chance_right, H_chance_right⟩ := c.def_ 12 (d := d_chance_right) rfl
  have g_chance_right := He.glo_ok X G (c.fact 12 (f := .glo "chance_right") rfl)
  have b_chance_right : Binds K fd_chance_right ["n", "c", "k"] [] := FunD.bindsN H_chance_right fun _ _ _ _ _ _ us hl => match us, hl with | [_, _, _], _ => rfl
  obtain ⟨fd_chance_pass, H_chance_pass⟩ := c.def_ 13 (d := d_chance_pass) rfl
  have g_chance_pass := He.glo_ok X G (c.fact 13 (f := .glo "chance_pass") rfl)
  have b_chance_pass : Binds K fd_chance_pass ["n", "c", "least"] [] := FunD.bindsN H_chance_pass fun _ _ _ _ _ _ us hl => match us, hl with | [_, _, _], _ => rfl
  obtain ⟨fd_mean_right, H_mean_right⟩ := c.def_ 14 (d := d_mean_right) rfl
  have g_mean_right := He.glo_ok X G (c.fact 14 (f := .glo "mean_right") rfl)
  have b_mean_right : Binds K fd_mean_right ["n", "c"] [] := FunD.bindsN H_mean_right fun _ _ _ _ _ _ us hl => match us, hl with | [_, _], _ => rfl
  obtain ⟨fd__law_draws, H__law_draws⟩ := c.def_ 15 (d := d__law_draws) rfl
  have g__law_draws := He.glo_ok X G (c.fact 15 (f := .glo "_law_draws") rfl)
  have b__law_draws : Binds K fd__law_draws ["script", "many"] [] := FunD.bindsN H__law_draws fun _ _ _ _ _ _ us hl => match us, hl with | [_, _], _ => rfl
  obtain ⟨fd__law_take, H__law_take⟩ := c.def_ 16 (d := d__law_take) rfl
  have g__law_take := He.glo_ok X G (c.fact 16 (f := .glo "_law_take") rfl)
  have b__law_take : Binds K fd__law_take ["draws", "many"] [] := FunD.bindsN H__law_take fun _ _ _ _ _ _ us hl => match us, hl with | [_, _], _ => rfl
  obtain ⟨fd__law_same, H__law_same⟩ := c.def_ 17 (d := d__law_same) rfl
  have g__law_same := He.glo_ok X G (c.fact 17 (f := .glo "_law_same") rfl)
  have b__law_same : Binds K fd__law_same ["actual", "due"] [] := FunD.bindsN H__law_same fun _ _ _ _ _ _ us hl => match us, hl with | [_, _], _ => rfl
  obtain ⟨fd__law_lowest, H__law_lowest⟩ := c.def_ 18 (d := d__law_lowest) rfl
  have g__law_lowest := He.glo_ok X G (c.fact 18 (f := .glo "_law_lowest") rfl)
  have b__law_lowest : Binds K fd__law_lowest ["n", "d"] [] := FunD.bindsN H__law_lowest fun _ _ _ _ _ _ us hl => match us, hl with | [_, _], _ => rfl
  obtain ⟨fd__law_are_chances_right, H__law_are_chances_right⟩ := c.def_ 19 (d := d__law_are_chances_right) rfl
  have g__law_are_chances_right := He.glo_ok X G (c.fact 19 (f := .glo "_law_are_chances_right") rfl)
  have b__law_are_chances_right : Binds K fd__law_are_chances_right ["n", "c", "k"] [] := FunD.bindsN H__law_are_chances_right fun _ _ _ _ _ _ us hl => match us, hl with | [_, _, _], _ => rfl
  obtain ⟨fd__law_are_needed_right, H__law_are_needed_right⟩ := c.def_ 20 (d := d__law_are_needed_right) rfl
  have g__law_are_needed_right := He.glo_ok X G (c.fact 20 (f := .glo "_law_are_needed_right") rfl)
  have b__law_are_needed_right : Binds K fd__law_are_needed_right ["draws", "n", "c"] [] := FunD.bindsN H__law_are_needed_right fun _ _ _ _ _ _ us hl => match us, hl with | [_, _, _], _ => rfl
  obtain ⟨fd__law_rows, H__law_rows⟩ := c.def_ 21 (d := d__law_rows) rfl
  have g__law_rows := He.glo_ok X G (c.fact 21 (f := .glo "_law_rows") rfl)
  have b__law_rows : Binds K fd__law_rows ["n", "k", "back"] [] := FunD.bindsN H__law_rows fun _ _ _ _ _ _ us hl => match us, hl with | [_, _, _], _ => rfl
  obtain ⟨fd__law_are_rows_right, H__law_are_rows_right⟩ := c.def_ 22 (d := d__law_are_rows_right) rfl
  have g__law_are_rows_right := He.glo_ok X G (c.fact 22 (f := .glo "_law_are_rows_right") rfl)
  have b__law_are_rows_right : Binds K fd__law_are_rows_right ["draws"] [] := FunD.bindsN H__law_are_rows_right fun _ _ _ _ _ _ us hl => match us, hl with | [_], _ => rfl
  obtain ⟨fd_law, H_law⟩ := c.def_ 23 (d := d_law) rfl
  have g_law := He.glo_ok X G (c.fact 23 (f := .glo "law") rfl)
  have b_law : Binds K fd_law ["script"] [] := FunD.bindsN H_law fun _ _ _ _ _ _ us hl => match us, hl with | [_], _ => rfl
  have e := hfa.symm.trans g_law
  cases e
  have b := FunD.bindsA (ps := ["script"]) H_law fun _ _ _ _ _ _ us hl => match us, hl with | [_], _ => rfl
  refine ⟨fd_law, fun s v => b s [v] rfl, fun base _ _ => ?_⟩
  have C_fraction : Cal P w K mg base 1 "fraction" F_fraction := ⟨⟨_, fd_fraction, _, ok_fraction H_fraction B Gc , g_fraction, H_fraction.kp, b_fraction⟩⟩
  have C_plus_of : Cal P w K mg base 2 "plus_of" F_plus_of := ⟨⟨_, fd_plus_of, _, ok_plus_of H_plus_of B Gc C_fraction, g_plus_of, H_plus_of.kp, b_plus_of⟩⟩
  have C_minus_of : Cal P w K mg base 2 "minus_of" F_minus_of := ⟨⟨_, fd_minus_of, _, ok_minus_of H_minus_of B Gc C_fraction, g_minus_of, H_minus_of.kp, b_minus_of⟩⟩
  have C_is_less : Cal P w K mg base 1 "is_less" F_is_less := ⟨⟨_, fd_is_less, _, ok_is_less H_is_less B Gc , g_is_less, H_is_less.kp, b_is_less⟩⟩
  have C_count_choices : Cal P w K mg base 1 "count_choices" F_count_choices := ⟨⟨_, fd_count_choices, _, ok_count_choices H_count_choices B Gc , g_count_choices, H_count_choices.kp, b_count_choices⟩⟩
  have C_chance_found : Cal P w K mg base 2 "chance_found" F_chance_found := ⟨⟨_, fd_chance_found, _, ok_chance_found H_chance_found B Gc C_fraction C_count_choices, g_chance_found, H_chance_found.kp, b_chance_found⟩⟩
  have C_chance_none_found : Cal P w K mg base 3 "chance_none_found" F_chance_none_found := ⟨⟨_, fd_chance_none_found, _, ok_chance_none_found H_chance_none_found B Gc C_chance_found, g_chance_none_found, H_chance_none_found.kp, b_chance_none_found⟩⟩
  have C_is_enough : Cal P w K mg base 4 "is_enough" F_is_enough := ⟨⟨_, fd_is_enough, _, ok_is_enough H_is_enough B Gc C_is_less C_chance_none_found, g_is_enough, H_is_enough.kp, b_is_enough⟩⟩
  have C_looks_needed : Cal P w K mg base 5 "looks_needed" F_looks_needed := ⟨⟨_, fd_looks_needed, _, ok_looks_needed H_looks_needed B Gc C_is_enough, g_looks_needed, H_looks_needed.kp, b_looks_needed⟩⟩
  have C_mean_found : Cal P w K mg base 2 "mean_found" F_mean_found := ⟨⟨_, fd_mean_found, _, ok_mean_found H_mean_found B Gc C_fraction, g_mean_found, H_mean_found.kp, b_mean_found⟩⟩
  have C_power : Cal P w K mg base 1 "power" F_power := ⟨⟨_, fd_power, _, ok_power H_power B Gc , g_power, H_power.kp, b_power⟩⟩
  have C_ways_to_choose : Cal P w K mg base 1 "ways_to_choose" F_ways_to_choose := ⟨⟨_, fd_ways_to_choose, _, ok_ways_to_choose H_ways_to_choose B Gc , g_ways_to_choose, H_ways_to_choose.kp, b_ways_to_choose⟩⟩
  have C_chance_right : Cal P w K mg base 2 "chance_right" F_chance_right := ⟨⟨_, fd_chance_right, _, ok_chance_right H_chance_right B Gc C_fraction C_power C_ways_to_choose, g_chance_right, H_chance_right.kp, b_chance_right⟩⟩
  have C_chance_pass : Cal P w K mg base 3 "chance_pass" F_chance_pass := ⟨⟨_, fd_chance_pass, _, ok_chance_pass H_chance_pass B Gc C_plus_of C_chance_right, g_chance_pass, H_chance_pass.kp, b_chance_pass⟩⟩
  have C_mean_right : Cal P w K mg base 2 "mean_right" F_mean_right := ⟨⟨_, fd_mean_right, _, ok_mean_right H_mean_right B Gc C_fraction, g_mean_right, H_mean_right.kp, b_mean_right⟩⟩
  have C__law_draws : Cal P w K mg base 1 "_law_draws" F__law_draws := ⟨⟨_, fd__law_draws, _, ok__law_draws H__law_draws B Gc , g__law_draws, H__law_draws.kp, b__law_draws⟩⟩
  have C__law_take : Cal P w K mg base 1 "_law_take" F__law_take := ⟨⟨_, fd__law_take, _, ok__law_take H__law_take B Gc , g__law_take, H__law_take.kp, b__law_take⟩⟩
  have C__law_same : Cal P w K mg base 8 "_law_same" F__law_same := ⟨⟨_, fd__law_same, _, ok__law_same H__law_same g__law_same b__law_same B Gc  8, g__law_same, H__law_same.kp, b__law_same⟩⟩
  have C__law_lowest : Cal P w K mg base 1 "_law_lowest" F__law_lowest := ⟨⟨_, fd__law_lowest, _, ok__law_lowest H__law_lowest B Gc , g__law_lowest, H__law_lowest.kp, b__law_lowest⟩⟩
  have C__law_are_chances_right : Cal P w K mg base 9 "_law_are_chances_right" F__law_are_chances_right := ⟨⟨_, fd__law_are_chances_right, _, ok__law_are_chances_right H__law_are_chances_right B Gc C_minus_of C_is_less C_chance_found C_chance_none_found C_mean_found C_chance_right C_chance_pass C_mean_right C__law_same, g__law_are_chances_right, H__law_are_chances_right.kp, b__law_are_chances_right⟩⟩
  have C__law_are_needed_right : Cal P w K mg base 6 "_law_are_needed_right" F__law_are_needed_right := ⟨⟨_, fd__law_are_needed_right, _, ok__law_are_needed_right H__law_are_needed_right B Gc C_is_less C_chance_none_found C_looks_needed C_chance_right C__law_take, g__law_are_needed_right, H__law_are_needed_right.kp, b__law_are_needed_right⟩⟩
  have C__law_rows : Cal P w K mg base 1 "_law_rows" F__law_rows := ⟨⟨_, fd__law_rows, _, ok__law_rows H__law_rows B Gc , g__law_rows, H__law_rows.kp, b__law_rows⟩⟩
  have C__law_are_rows_right : Cal P w K mg base 9 "_law_are_rows_right" F__law_are_rows_right := ⟨⟨_, fd__law_are_rows_right, _, ok__law_are_rows_right H__law_are_rows_right B Gc C_chance_found C_chance_right C__law_take C__law_same C__law_lowest C__law_rows, g__law_are_rows_right, H__law_are_rows_right.kp, b__law_are_rows_right⟩⟩
  exact ok_law H_law B Gc C_chance_found C_chance_none_found C_looks_needed C_mean_found C_chance_right C__law_draws C__law_take C__law_same C__law_are_chances_right C__law_are_needed_right C__law_are_rows_right
theorem sp_law {K : PySem.W.Frag} (H : Hp) (a : Addr) (ns : List Int) (hl : ns.length ≤ 63) (hO : Only H) (hS : SqL K H a (ns.map V.int)) : spF K F_law [.ref a] H (fun v _ => v = .bl true) fun _ _ _ => False :=
  law_end hl hO hS (law_true ns hl)
end K89.D
open PySem PySem.W PySem.Calls PyProof.Rows
theorem PySem.Challenge.cw_papersdealt_k89_whole_looks_and_guesses_holds : PySem.Challenge.rw_papersdealt_k89_whole_looks_and_guesses.Holds := by
  w_on; o_law
  refine HeadRun.head_imp (r := OpenLaw.row PySem.Challenge.rw_papersdealt_k89_whole_looks_and_guesses) (q := view (OpenLaw.row PySem.Challenge.rw_papersdealt_k89_whole_looks_and_guesses).prog [29]) (H := K89.D.hk) (ob := K89.D.ob) (M := 8000) (loose := K89.D.loose) (d := HandSHeadRun.topDef (OpenLaw.row PySem.Challenge.rw_papersdealt_k89_whole_looks_and_guesses).prog 29) (kwd := []) K89.D.ob_eq
    K89.D.run (by kernel_rfl) (by kernel_rfl) (by kernel_rfl) (by rfl) (by first | assumption | decide +kernel) (by decide +kernel) ⟨rfl, rfl, rfl, rfl, rfl, by decide +kernel⟩ ?hw ?hc
  case hw => w_witness2
  case hc =>
    refine L2.walk_ofE (l := PySem.Challenge.rw_papersdealt_k89_whole_looks_and_guesses) (n := 63) (k := 10) (x := "script") (CX := L2.CX0) rfl (by decide) (by kernel_rfl) ⟨rfl, by decide, by decide⟩ ?F (fun _ _ _ _ z => z)
    intro w mg fa h Y G hmg0
    obtain ⟨K, KX, c⟩ := Y
    have hmg : mg ("law" : PySem.Str) = some (.ref fa) := by
      have e : (HandSHeadRun.topDef (OpenLaw.row PySem.Challenge.rw_papersdealt_k89_whole_looks_and_guesses).prog 29).name = ("law" : PySem.Str) := by kernel_rfl
      rw [← e]
      exact hmg0
    obtain ⟨fd, hb, hF⟩ := K89.D.facts (P := (PySem.Challenge.rw_papersdealt_k89_whole_looks_and_guesses).prog) (w := w) KX G hmg c.t.d (K89.D.gcd_ok KX G c.more)
    exact ⟨K, fd, Ev.spF K K89.F_law, KX, hb, fun H a ns hl hO hS => K89.D.sp_law H a ns hl hO hS, hF⟩

