import PyProof.Rows.All
import Wide.All
import OpenK.AllK
import Wide.FinOn
import HandS.ForMost
import HandS.Wide
import HandS.IsInst
import HandS.Property
import HandS.Codes
import HandS.Flow
import HandS.Walk
import HandS.Star
import HandS.Defaults
import KE.DataMinMax
import KE.KTupSum
import KE.DatumIndex
import PyProof.ReprRoads
import HandS.Deep
import HandS.More
import HandS.DictComp
import HandS.Zip
import KE.GoesEnum
import HandS.Small
import KE.KRevSl
import PyProof.SliceStr2
import HandS.Style
import HandS.OwnEq
import OpenK.KMeth
import KE.KFmtOwn
import KE.KOpsOwn
import HandS.WordsDict
import PyProof.RowDictHeap
import PyProof.StrLawsRepr
import HandS.Conv
import KE.DataEq
import KE.SortData
import PyProof.Rows.SortShellAny
import HandS.Exc
import HandS.ExcOwn
import HandS.WordsExc
import HandS.ExcInit
import HandS.ExcIs
import HandS.ExcField
import HandS.ClsMeth
import HandS.Lambda
import KE.KNestM
import PySem.Challenge.RW_roundrates_k84_whole_ages_between
set_option Elab.async false
set_option linter.all false
set_option maxRecDepth 100000
set_option maxHeartbeats 4000000
/-! RT0: Python data told by Lean data; judgements of expressions and blocks over them. -/
namespace RT
open PySem L2

/-! ### data -/
structure Rp (α : Type) where
  rel : Hp → V → α → Prop
  mono : ∀ {G G' : Hp} {v : V} {x : α}, Same G G' → rel G v x → rel G' v x

theorem same_rd {G G' : Hp} {a : Addr} {u : HO} (e : Same G G') (h : Rd G a u) : Rd G' a u := by
  rcases h with h | ⟨o, h⟩
  · exact .inl (e _ _ h)
  · exact .inr ⟨o, e _ _ h⟩
theorem paired_imp {α β : Type} {F F' : α → β → Prop} (f : ∀ a b, F a b → F' a b) : ∀ {l : List α} {m : List β}, Paired F l m → Paired F' l m
  | _, _, .nil => .nil
  | _, _, .cons h t => .cons (f _ _ h) (paired_imp f t)
theorem Rp.pmono {α : Type} (R : Rp α) {G G' : Hp} {vs : List V} {xs : List α} (e : Same G G') (h : Paired (R.rel G) vs xs) : Paired (R.rel G') vs xs := paired_imp (fun _ _ => R.mono e) h

def rInt : Rp Int := ⟨fun _ v x => v = .int x, fun _ h => h⟩
def rBool : Rp Bool := ⟨fun _ v x => v = .bl x, fun _ h => h⟩
def rStr : Rp Str := ⟨fun _ v x => v = .str x, fun _ h => h⟩
def rNone : Rp Unit := ⟨fun _ v _ => v = .non, fun _ h => h⟩
def rLst {α : Type} (R : Rp α) : Rp (List α) := ⟨fun G v xs => ∃ a vs, v = .ref a ∧ Rd G a (.lst vs) ∧ Paired (R.rel G) vs xs, fun e ⟨a, vs, h1, h2, h3⟩ => ⟨a, vs, h1, same_rd e h2, R.pmono e h3⟩⟩
def rTup {α : Type} (R : Rp α) : Rp (List α) := ⟨fun G v xs => ∃ a vs, v = .ref a ∧ Rd G a (.tup vs) ∧ Paired (R.rel G) vs xs, fun e ⟨a, vs, h1, h2, h3⟩ => ⟨a, vs, h1, same_rd e h2, R.pmono e h3⟩⟩
def rPair {α β : Type} (R : Rp α) (S : Rp β) : Rp (α × β) := ⟨fun G v p => ∃ a v1 v2, v = .ref a ∧ Rd G a (.tup [v1, v2]) ∧ R.rel G v1 p.1 ∧ S.rel G v2 p.2, fun e ⟨a, v1, v2, h1, h2, h3, h4⟩ => ⟨a, v1, v2, h1, same_rd e h2, R.mono e h3, S.mono e h4⟩⟩
/-- a dict whose keys are texts, locked since it was made -/
def rDic {α : Type} (R : Rp α) : Rp (List (Str × α)) := ⟨fun G v ps => ∃ a o kvs, v = .ref a ∧ G a = some (.frz o (.dK kvs)) ∧ Paired (fun (kv : Key × V) (p : Str × α) => kv.1 = .inr p.1 ∧ R.rel G kv.2 p.2) kvs ps,
  fun e ⟨a, o, kvs, h1, h2, h3⟩ => ⟨a, o, kvs, h1, e _ _ h2, paired_imp (fun _ _ q => ⟨q.1, R.mono e q.2⟩) h3⟩⟩
theorem rDic_rd {α : Type} {R : Rp α} {G : Hp} {v : V} {ps : List (Str × α)} (h : (rDic R).rel G v ps) : ∃ a kvs, v = .ref a ∧ Rd G a (.dK kvs) ∧ Paired (fun (kv : Key × V) (p : Str × α) => kv.1 = .inr p.1 ∧ R.rel G kv.2 p.2) kvs ps :=
  let ⟨a, o, kvs, h1, h2, h3⟩ := h; ⟨a, kvs, h1, .inr ⟨o, h2⟩, h3⟩

/-- what is known of an attribute -/
inductive Fe : Type 1 where
  | mk {α : Type} (R : Rp α) (x : α)
def FeOk (G : Hp) (v : V) : Fe → Prop
  | .mk R x => R.rel G v x
def FsOk (G : Hp) (vs : List (Str × V)) (fs : List (Str × Fe)) : Prop := vs.map (·.1) = fs.map (·.1) ∧ ∀ (i : Nat) (p : Str × V) (q : Str × Fe), vs[i]? = some p → fs[i]? = some q → FeOk G p.2 q.2
theorem FeOk.mono {G G' : Hp} {v : V} (e : Same G G') : ∀ {f : Fe}, FeOk G v f → FeOk G' v f
  | .mk R _, h => R.mono e h
theorem FsOk.mono {G G' : Hp} {vs : List (Str × V)} {fs : List (Str × Fe)} (e : Same G G') (h : FsOk G vs fs) : FsOk G' vs fs := ⟨h.1, fun i p q h1 h2 => (h.2 i p q h1 h2).mono e⟩
/-- what is known of a new object that may still change -/
structure Mu where
  ok : Hp → HO → Prop
  mono : ∀ {G G' : Hp} {u : HO}, Same G G' → ok G u → ok G' u
  no : ∀ {G : Hp} {y : Addr}, ¬ ok G (.own y)
  nx : ∀ {G : Hp} {φ : Heap → Prop}, ¬ ok G (.ext φ)
/-- what is known of a name's value -/
inductive Ent : Type 1 where
  | any
  | val {α : Type} (R : Rp α) (x : α)
  | own {α : Type} (R : Rp α) (xs : List α)
  | adr (a : Addr)
  | obj (a C : Addr) (fs : List (Str × Fe))
  | own2 (U : Mu)

/-! ### the state: G what stands for ever, H all -/
/-- objects that others may change: F, by what always holds of them -/
structure Md where
  F : List Addr
  I : Hp → Hp → Prop
  up : ∀ {G H G' H' : Hp}, I G H → Same G G' → Same G' H' → (∀ a ∈ F, H' a = H a) → (∀ a φ, H a = some (.ext φ) → H' a = some (.ext φ)) → I G' H'
  mix : ∀ {G H G' G2 H2 : Hp}, I G H → I G2 H2 → Same G G' → Same G' G2 → Same G2 H2 → (∀ a φ, G2 a = some (.ext φ) → G' a = some (.ext φ)) → I G' H2
def Md0 : Md := ⟨[], fun _ _ => True, fun _ _ _ _ _ => trivial, fun _ _ _ _ _ _ => trivial⟩
/-- lists and tuples are within the line -/
def SzOk (H : Hp) : Prop := ∀ (a : Addr) (xs : List V), (Rd H a (.lst xs) ∨ Rd H a (.tup xs)) → xs.length ≤ sizeLine
structure Okk (M : Md) (G H : Hp) : Prop where
  gh : Same G H
  sz : SzOk H
  i : M.I G H
  f : ∀ a ∈ M.F, H a ≠ none ∧ G a = none
structure Step (M : Md) (G H G' H' : Hp) : Prop where
  g : Same G G'
  gh : Same G' H'
  sz : SzOk H'
  h : ∀ a o, a ∉ M.F → H a = some o → H' a = some o
  nw : ∀ a, H a ≠ none → G a = none → G' a = none
  i : M.I G' H'
  f : ∀ a ∈ M.F, H' a ≠ none

section
variable {M : Md} {G H G' H' G1 H1 : Hp}
theorem Step.refl (o : Okk M G H) : Step M G H G H := ⟨Same.refl _, o.gh, o.sz, fun _ _ _ e => e, fun _ _ e => e, o.i, fun a h => (o.f a h).1⟩
theorem Step.ne (s : Step M G H G' H') {a : Addr} (h : H a ≠ none) : H' a ≠ none := by
  by_cases hf : a ∈ M.F
  · exact s.f a hf
  · intro e
    cases q : H a with
    | none => exact h q
    | some o => rw [s.h a o hf q] at e; cases e
theorem Step.trans (s : Step M G H G' H') (t : Step M G' H' G1 H1) : Step M G H G1 H1 :=
  ⟨s.g.trans t.g, t.gh, t.sz, fun a o hf e => t.h a o hf (s.h a o hf e), fun a h e => t.nw a (s.ne h) (s.nw a h e), t.i, t.f⟩
/-- T lets more be so -/
structure Le (M T : Md) : Prop where
  f : M.F = T.F
  i : ∀ G H, M.I G H → T.I G H
theorem Le.refl (M : Md) : Le M M := ⟨rfl, fun _ _ h => h⟩
theorem Le.trans {M N T : Md} (a : Le M N) (b : Le N T) : Le M T := ⟨a.f.trans b.f, fun G H h => b.i G H (a.i G H h)⟩
theorem Step.le {M T : Md} {G H G' H' : Hp} (l : Le M T) (s : Step M G H G' H') : Step T G H G' H' := ⟨s.g, s.gh, s.sz, fun a o hf => s.h a o (by rw [l.f]; exact hf), s.nw, l.i _ _ s.i, fun a hf => s.f a (by rw [l.f]; exact hf)⟩
theorem Step.trans2 {M N : Md} {G H G' H' G1 H1 : Hp} (hF : M.F = N.F) (s : Step M G H G' H') (t : Step N G' H' G1 H1) : Step N G H G1 H1 :=
  ⟨s.g.trans t.g, t.gh, t.sz, fun a o hf e => t.h a o hf (s.h a o (by rw [hF]; exact hf) e), fun a h e => t.nw a (s.ne h) (s.nw a h e), t.i, t.f⟩
theorem Step.okk2 {M N : Md} (hF : M.F = N.F) (o : Okk M G H) (s : Step N G H G' H') : Okk N G' H' := ⟨s.gh, s.sz, s.i, fun a h => ⟨s.f a h, s.nw a (o.f a (by rw [hF]; exact h)).1 (o.f a (by rw [hF]; exact h)).2⟩⟩
theorem Okk.le {M T : Md} (l : Le M T) (o : Okk M G H) : Okk T G H := ⟨o.gh, o.sz, l.i _ _ o.i, fun a h => o.f a (by rw [l.f]; exact h)⟩
theorem Step.okk (o : Okk M G H) (s : Step M G H G' H') : Okk M G' H' := ⟨s.gh, s.sz, s.i, fun a h => ⟨s.f a h, s.nw a (o.f a h).1 (o.f a h).2⟩⟩
theorem Step.fresh (s : Step M G H G' H') {p : Addr} (h : H' p = none) : H p = none := by
  cases q : H p with
  | none => rfl
  | some u => exact absurd h (s.ne (by rw [q]; exact fun z => nomatch z))
theorem Okk.gnone (o : Okk M G H) {p : Addr} (h : H p = none) : G p = none := o.gh.free h
theorem Okk.nf (o : Okk M G H) {p : Addr} (h : H p = none) : p ∉ M.F := fun hf => (o.f p hf).1 h
theorem same_upd {H : Hp} {p : Addr} {o : HO} (h : H p = none) : Same H (upd H p o) := fun a u e => by rw [upd_ne (ne_of_none e h)]; exact e
theorem same_upd2 {G H : Hp} {p : Addr} {o : HO} (e : Same G H) : Same (upd G p o) (upd H p o) := fun a u h => by
  by_cases hb : a = p
  · subst hb; rw [upd_same] at h ⊢; exact h
  · rw [upd_ne hb] at h ⊢; exact e a u h
theorem same_updR {G H : Hp} {p : Addr} {o : HO} (e : Same G H) (h : G p = none) : Same G (upd H p o) := fun a u q => by rw [upd_ne (ne_of_none q h)]; exact e a u q
/-- the content of an object is within the line -/
def SzU : HO → Prop
  | .lst xs => xs.length ≤ sizeLine
  | .tup xs => xs.length ≤ sizeLine
  | .frz _ u => SzU u
  | _ => True
theorem szOk_upd {H : Hp} {p : Addr} {u : HO} (h : SzOk H) (hu : SzU u) : SzOk (upd H p u) := fun a xs r => by
  by_cases e : a = p
  · subst e
    rcases r with (r | ⟨o, r⟩) | (r | ⟨o, r⟩) <;> (rw [upd_same] at r; cases r; exact hu)
  · refine h a xs ?_
    rcases r with (r | ⟨o, r⟩) | (r | ⟨o, r⟩) <;> rw [upd_ne e] at r
    · exact .inl (.inl r)
    · exact .inl (.inr ⟨o, r⟩)
    · exact .inr (.inl r)
    · exact .inr (.inr ⟨o, r⟩)
/-- a new object that stands for ever -/
theorem Step.new (o : Okk M G H) {p : Addr} {u : HO} (h : H p = none) (hu : SzU u) : Step M G H (upd G p u) (upd H p u) :=
  ⟨same_upd (o.gnone h), same_upd2 o.gh, szOk_upd o.sz hu, fun a v _ e => same_upd h a v e, fun a ha e => by
    rw [upd_ne (fun z => ha (by rw [z]; exact h))]; exact e,
   M.up o.i (same_upd (o.gnone h)) (same_upd2 o.gh) (fun a ha => upd_ne fun z => (o.f a ha).1 (by rw [z]; exact h)) (fun a _ e => same_upd h a _ e),
   fun a ha e => by rw [upd_ne (fun z => (o.f a ha).1 (by rw [z]; exact h))] at e; exact (o.f a ha).1 e⟩
/-- a new object that may still change -/
theorem Step.own (o : Okk M G H) {p : Addr} {u : HO} (h : H p = none) (hu : SzU u) : Step M G H G (upd H p u) :=
  ⟨Same.refl _, same_updR o.gh (o.gnone h), szOk_upd o.sz hu, fun a v _ e => same_upd h a v e, fun a _ e => e,
   M.up o.i (Same.refl _) (same_updR o.gh (o.gnone h)) (fun a ha => upd_ne fun z => (o.f a ha).1 (by rw [z]; exact h)) (fun a _ e => same_upd h a _ e),
   fun a ha e => by rw [upd_ne (fun z => (o.f a ha).1 (by rw [z]; exact h))] at e; exact (o.f a ha).1 e⟩
end

def EntOk (F : List Addr) (H0 G H : Hp) (σ : St) (i : Nat) : Ent → Prop
  | .any => True
  | .val R x => ∃ v, σ[i]? = some (some v) ∧ R.rel G v x
  | .own R xs => ∃ a vs, σ[i]? = some (some (V.ref a)) ∧ H a = some (.lst vs) ∧ G a = none ∧ a ∉ F ∧ H0 a = none ∧ Paired (R.rel G) vs xs
  | .adr a => σ[i]? = some (some (V.ref a))
  | .own2 U => ∃ a u, σ[i]? = some (some (V.ref a)) ∧ H a = some u ∧ G a = none ∧ a ∉ F ∧ H0 a = none ∧ U.ok G u
  | .obj a C fs => ∃ dx vs, σ[i]? = some (some (V.ref a)) ∧ H a = some (.ins C dx vs) ∧ H dx = some (.own a) ∧ dx ≠ a ∧ G a = none ∧ G dx = none ∧ a ∉ F ∧ dx ∉ F ∧ H0 a = none ∧ H0 dx = none ∧ FsOk G vs fs
def IsOwn : Option Ent → Prop
  | some (.own _ _) => True
  | some (.obj _ _ _) => True
  | some (.own2 _) => True
  | _ => False
structure Stt (M : Md) (H0 : Hp) (Γ : List Ent) (σ : St) (G H : Hp) : Prop where
  ok : Okk M G H
  len : σ.length = Γ.length
  ent : ∀ (i : Nat) (e : Ent), Γ[i]? = some e → EntOk M.F H0 G H σ i e
  dis : ∀ (i j : Nat) (a : Addr), i ≠ j → IsOwn Γ[i]? → IsOwn Γ[j]? → σ[i]? = some (some (V.ref a)) → σ[j]? ≠ some (some (V.ref a))

section
variable {M : Md} {H0 G H G' H' : Hp} {Γ Γ' : List Ent} {σ : St} {i : Nat} {α : Type} {R : Rp α} {x : α} {xs : List α} {v : V}
theorem EntOk.step (o : Okk M G H) (s : Step M G H G' H') : ∀ {e : Ent}, EntOk M.F H0 G H σ i e → EntOk M.F H0 G' H' σ i e
  | .any, _ => trivial
  | .val R x, ⟨v, h1, h2⟩ => ⟨v, h1, R.mono s.g h2⟩
  | .own R xs, ⟨a, vs, h1, h2, h3, h4, h5, h6⟩ => ⟨a, vs, h1, s.h a _ h4 h2, s.nw a (by rw [h2]; exact fun z => nomatch z) h3, h4, h5, R.pmono s.g h6⟩
  | .own2 U, ⟨a, vs, h1, h2, h3, h4, h5, h6⟩ => ⟨a, vs, h1, s.h a _ h4 h2, s.nw a (by rw [h2]; exact fun z => nomatch z) h3, h4, h5, U.mono s.g h6⟩
  | .adr a, h => h
  | .obj a C fs, ⟨dx, vs, h1, h2, h3, h4, h5, h6, h7, h8, h9, h10, h11⟩ => ⟨dx, vs, h1, s.h a _ h7 h2, s.h dx _ h8 h3, h4, s.nw a (by rw [h2]; exact fun z => nomatch z) h5, s.nw dx (by rw [h3]; exact fun z => nomatch z) h6, h7, h8, h9, h10, h11.mono s.g⟩
theorem Stt.step (t : Stt M H0 Γ σ G H) (s : Step M G H G' H') : Stt M H0 Γ σ G' H' := ⟨s.okk t.ok, t.len, fun i e h => (t.ent i e h).step t.ok s, t.dis⟩
theorem EntOk.step2 {N : Md} (hF : M.F = N.F) (o : Okk M G H) (s : Step N G H G' H') : ∀ {e : Ent}, EntOk M.F H0 G H σ i e → EntOk N.F H0 G' H' σ i e
  | .any, _ => trivial
  | .val R x, ⟨v, h1, h2⟩ => ⟨v, h1, R.mono s.g h2⟩
  | .own R xs, ⟨a, vs, h1, h2, h3, h4, h5, h6⟩ => ⟨a, vs, h1, s.h a _ (by rw [← hF]; exact h4) h2, s.nw a (by rw [h2]; exact fun z => nomatch z) h3, by rw [← hF]; exact h4, h5, R.pmono s.g h6⟩
  | .own2 U, ⟨a, vs, h1, h2, h3, h4, h5, h6⟩ => ⟨a, vs, h1, s.h a _ (by rw [← hF]; exact h4) h2, s.nw a (by rw [h2]; exact fun z => nomatch z) h3, by rw [← hF]; exact h4, h5, U.mono s.g h6⟩
  | .adr a, h => h
  | .obj a C fs, ⟨dx, vs, h1, h2, h3, h4, h5, h6, h7, h8, h9, h10, h11⟩ => ⟨dx, vs, h1, s.h a _ (by rw [← hF]; exact h7) h2, s.h dx _ (by rw [← hF]; exact h8) h3, h4, s.nw a (by rw [h2]; exact fun z => nomatch z) h5, s.nw dx (by rw [h3]; exact fun z => nomatch z) h6, by rw [← hF]; exact h7, by rw [← hF]; exact h8, h9, h10, h11.mono s.g⟩
theorem Stt.step2 {N : Md} (hF : M.F = N.F) (t : Stt M H0 Γ σ G H) (s : Step N G H G' H') : Stt N H0 Γ σ G' H' := ⟨s.okk2 hF t.ok, t.len, fun i e h => (t.ent i e h).step2 hF t.ok s, t.dis⟩
theorem Stt.le {T : Md} (l : Le M T) (t : Stt M H0 Γ σ G H) : Stt T H0 Γ σ G H := ⟨t.ok.le l, t.len, fun i e h => by rw [← l.f]; exact t.ent i e h, t.dis⟩
theorem Stt.val (t : Stt M H0 Γ σ G H) (h : Γ[i]? = some (.val R x)) : ∃ v, σ[i]? = some (some v) ∧ R.rel G v x := t.ent i _ h
theorem isOwn_set {e : Ent} {i j : Nat} (h : IsOwn (Γ.set i e)[j]?) : (j = i ∧ IsOwn (some e)) ∨ (j ≠ i ∧ IsOwn Γ[j]?) := by
  by_cases hj : i = j
  · subst hj
    by_cases hl : i < Γ.length
    · rw [List.getElem?_set_self hl] at h; exact .inl ⟨rfl, h⟩
    · rw [List.getElem?_eq_none (by simpa using hl)] at h; exact h.elim
  · rw [List.getElem?_set_ne hj] at h; exact .inr ⟨fun z => hj z.symm, h⟩
/-- a slot is stored: what is told of it now -/
theorem Stt.put {e : Ent} (t : Stt M H0 Γ σ G H) (he : i < Γ.length → EntOk M.F H0 G H (σ.set i (some v)) i e)
    (hd : IsOwn (some e) → ∀ (j : Nat) (a : Addr), j ≠ i → IsOwn Γ[j]? → v = V.ref a → σ[j]? ≠ some (some (V.ref a))) : Stt M H0 (Γ.set i e) (σ.set i (some v)) G H := by
  refine ⟨t.ok, by simpa using t.len, fun j e' h => ?_, fun j k a hjk h1 h2 => ?_⟩
  · by_cases hj : i = j
    · subst hj
      by_cases hl : i < Γ.length
      · rw [List.getElem?_set_self hl] at h; cases h; exact he hl
      · rw [List.getElem?_eq_none (by simpa using hl)] at h; cases h
    · rw [List.getElem?_set_ne hj] at h
      have q := t.ent j e' h
      have hs : (σ.set i (some v))[j]? = σ[j]? := List.getElem?_set_ne hj
      cases e' with
      | any => trivial
      | val R' x' => obtain ⟨w, z1, z2⟩ := q; exact ⟨w, hs.trans z1, z2⟩
      | own R' xs' => obtain ⟨a, vs, z1, z2⟩ := q; exact ⟨a, vs, hs.trans z1, z2⟩
      | own2 U => obtain ⟨a, vs, z1, z2⟩ := q; exact ⟨a, vs, hs.trans z1, z2⟩
      | adr a => exact hs.trans q
      | obj a C fs => obtain ⟨dx, vs, z1, z2⟩ := q; exact ⟨dx, vs, hs.trans z1, z2⟩
  · intro h3 h4
    have lenof : ∀ {y : Option V}, ∀ (m : Nat), (σ.set i (some v))[m]? = some y → m = i → y = some v := fun {y} m hm e => by
      subst e
      by_cases hl : m < σ.length
      · rw [List.getElem?_set_self hl] at hm; exact (Option.some.inj hm).symm
      · rw [List.getElem?_eq_none (by simpa using hl)] at hm; cases hm
    rcases isOwn_set h1 with ⟨e1, o1⟩ | ⟨e1, o1⟩
    · rcases isOwn_set h2 with ⟨e2, o2⟩ | ⟨e2, o2⟩
      · exact hjk (e1.trans e2.symm)
      · have ev := lenof j h3 e1
        rw [List.getElem?_set_ne (fun z => e2 z.symm)] at h4
        exact hd o1 k a e2 o2 (Option.some.inj ev).symm h4
    · rw [List.getElem?_set_ne (fun z => e1 z.symm)] at h3
      rcases isOwn_set h2 with ⟨e2, o2⟩ | ⟨e2, o2⟩
      · have ev := lenof k h4 e2
        exact hd o2 j a e1 o1 (Option.some.inj ev).symm h3
      · rw [List.getElem?_set_ne (fun z => e2 z.symm)] at h4
        exact t.dis j k a hjk o1 o2 h3 h4
theorem Stt.putV (t : Stt M H0 Γ σ G H) (i : Nat) (h : R.rel G v x) : Stt M H0 (Γ.set i (.val R x)) (σ.set i (some v)) G H :=
  t.put (fun hl => ⟨v, List.getElem?_set_self (by rw [t.len]; exact hl), h⟩) (fun z => z.elim)
theorem Stt.putAny (t : Stt M H0 Γ σ G H) (i : Nat) (v : V) : Stt M H0 (Γ.set i .any) (σ.set i (some v)) G H := t.put (fun _ => trivial) (fun z => z.elim)
/-- less is told -/
def Weak : List Ent → List Ent → Prop
  | [], [] => True
  | a :: as, b :: bs => (b = .any ∨ a = b) ∧ Weak as bs
  | _, _ => False
theorem Weak.at : ∀ {Γ Γ' : List Ent}, Weak Γ Γ' → Γ.length = Γ'.length ∧ ∀ (j : Nat) (e : Ent), Γ'[j]? = some e → e = .any ∨ Γ[j]? = some e
  | [], [], _ => ⟨rfl, fun _ _ h => by simp at h⟩
  | a :: as, b :: bs, h => by
    obtain ⟨h1, h2⟩ := h
    obtain ⟨l, q⟩ := Weak.at h2
    refine ⟨by simp [l], fun j e z => ?_⟩
    cases j with
    | zero =>
      have z' : b = e := by simpa using z
      subst z'
      rcases h1 with h1 | h1
      · exact .inl h1
      · exact .inr (by simp [h1])
    | succ n =>
      rcases q n e (by simpa using z) with r | r
      · exact .inl r
      · exact .inr (by simpa using r)
theorem Weak.refl : ∀ Γ : List Ent, Weak Γ Γ
  | [] => trivial
  | _ :: as => ⟨.inr rfl, Weak.refl as⟩
theorem Stt.weak (t : Stt M H0 Γ σ G H) (w : Weak Γ Γ') : Stt M H0 Γ' σ G H := by
  obtain ⟨l, q⟩ := w.at
  have own : ∀ (j : Nat), IsOwn Γ'[j]? → IsOwn Γ[j]? := fun j h => by
    cases e : Γ'[j]? with
    | none => rw [e] at h; exact h.elim
    | some u =>
      rw [e] at h
      rcases q j u e with z | z
      · subst z; exact h.elim
      · rw [z]; exact h
  refine ⟨t.ok, t.len.trans l, fun j e h => ?_, fun j k a hjk h1 h2 => t.dis j k a hjk (own j h1) (own k h2)⟩
  rcases q j e h with z | z
  · subst z; trivial
  · exact t.ent j e z
end

/-! ### the readings that ask nothing but the walk -/
structure tOf (X : Cx) (e : Expr) (σ : St) (H : Hp) (Q : VK) : Prop where
  run : ∀ (pins : List (Addr × Obj)) (s : Shared), Inv X pins σ H s → wpAny (model X.prog X.w) X.A (eval e X.env) (EP X pins σ Q) X.xe s
structure ttOf (X : Cx) (e : Expr) (σ : St) (H : Hp) (Q : Bool → Hp → Prop) : Prop where
  run : ∀ (pins : List (Addr × Obj)) (s : Shared), Inv X pins σ H s → wpAny (model X.prog X.w) X.A (isTrue e X.env (eval e X.env)) (TP X pins σ Q) X.xe s
structure twOf (X : Cx) (e : Expr) (σ : St) (H : Hp) (Q : Bool → Hp → Prop) : Prop where
  run : ∀ (whole : Sem Value) (pins : List (Addr × Obj)) (s : Shared), Inv X pins σ H s → wpAny (model X.prog X.w) X.A (isTrue e X.env whole) (TP X pins σ Q) X.xe s
structure taOf (X : Cx) (es : List Expr) (σ : St) (H : Hp) (Q : List V → Hp → Prop) : Prop where
  run : ∀ (pos : Pos) (pins : List (Addr × Obj)) (s : Shared), Inv X pins σ H s → wpAny (model X.prog X.w) X.A (spliced (backTo pos (starEach es X.env))) (AP X pins σ Q) X.xe s
structure s1Of (X : Cx) (st : Stmt) (D : Ends) (σ : St) (H : Hp) : Prop where
  run : ∀ (pins : List (Addr × Obj)) (s : Shared), Inv X pins σ H s → wpAny (model X.prog X.w) X.A (exec st X.env) (SP X pins D) X.xe s
structure sOf (X : Cx) (st : List Stmt) (D : Ends) (σ : St) (H : Hp) : Prop where
  run : ∀ (pins : List (Addr × Obj)) (s : Shared), Inv X pins σ H s → wpAny (model X.prog X.w) X.A (execs st X.env) (SP X pins D) X.xe s
section
variable {X : Cx} {e : Expr} {es : List Expr} {st : Stmt} {sts : List Stmt} {σ : St} {H : Hp}
theorem pe_of : PE X e (tOf X e) := ⟨fun pins s _ _ _ I h => h.run pins s I⟩
theorem pt_of : PT X e (ttOf X e) := ⟨fun pins s _ _ _ I h => h.run pins s I⟩
theorem pw_of : PW X e (twOf X e) := ⟨fun wh pins s _ _ _ I h => h.run wh pins s I⟩
theorem pa_of : PA X es (taOf X es) := ⟨fun pos pins s _ _ _ I h => h.run pos pins s I⟩
theorem ps_of : PS X st (s1Of X st) := ⟨fun pins s _ _ _ I h => h.run pins s I⟩
theorem pss_of : PSs X sts (sOf X sts) := ⟨fun pins s _ _ _ I h => h.run pins s I⟩
theorem of_pe {te : TE} (p : PE X e te) {Q : VK} (h : te σ H Q) : tOf X e σ H Q := ⟨fun pins s I => p.run pins s σ H Q I h⟩
theorem of_pt {tt : TT} (p : PT X e tt) {Q : Bool → Hp → Prop} (h : tt σ H Q) : ttOf X e σ H Q := ⟨fun pins s I => p.run pins s σ H Q I h⟩
theorem of_pw {tt : TT} (p : PW X e tt) {Q : Bool → Hp → Prop} (h : tt σ H Q) : twOf X e σ H Q := ⟨fun wh pins s I => p.run wh pins s σ H Q I h⟩
theorem of_pa {ta : TA} (p : PA X es ta) {Q : List V → Hp → Prop} (h : ta σ H Q) : taOf X es σ H Q := ⟨fun pos pins s I => p.run pos pins s σ H Q I h⟩
theorem of_ps {ts : TS} (p : PS X st ts) {D : Ends} (h : ts D σ H) : s1Of X st D σ H := ⟨fun pins s I => p.run pins s σ H D I h⟩
theorem of_pss {ts : TS} (p : PSs X sts ts) {D : Ends} (h : ts D σ H) : sOf X sts D σ H := ⟨fun pins s I => p.run pins s σ H D I h⟩
end

/-! ### judgements -/
/-- e's value is told by some x with P; ahead of it M, behind it N -/
def EVt (X : Cx) (M N : Md) (e : Expr) (Γ : List Ent) {α : Type} (R : Rp α) (P : α → Prop) : Prop :=
  ∀ (H0 G H : Hp) (σ : St), Stt M H0 Γ σ G H → ∀ Q : VK, (∀ v x G' H', P x → Step N G H G' H' → R.rel G' v x → Q v H') → tOf X e σ H Q
abbrev EVp (X : Cx) (M : Md) (e : Expr) (Γ : List Ent) {α : Type} (R : Rp α) (P : α → Prop) : Prop := EVt X M M e Γ R P
abbrev EV (X : Cx) (M : Md) (e : Expr) (Γ : List Ent) {α : Type} (R : Rp α) (x : α) : Prop := EVp X M e Γ R (fun y => y = x)
/-- a test -/
def TVp (X : Cx) (M : Md) (e : Expr) (Γ : List Ent) (P : Bool → Prop) : Prop :=
  ∀ (H0 G H : Hp) (σ : St), Stt M H0 Γ σ G H → ∀ Q : Bool → Hp → Prop, (∀ b G' H', P b → Step M G H G' H' → Q b H') → ttOf X e σ H Q
abbrev TV (X : Cx) (M : Md) (e : Expr) (Γ : List Ent) (b : Bool) : Prop := TVp X M e Γ (fun c => c = b)
def TWp (X : Cx) (M : Md) (e : Expr) (Γ : List Ent) (P : Bool → Prop) : Prop :=
  ∀ (H0 G H : Hp) (σ : St), Stt M H0 Γ σ G H → ∀ Q : Bool → Hp → Prop, (∀ b G' H', P b → Step M G H G' H' → Q b H') → twOf X e σ H Q
abbrev TW (X : Cx) (M : Md) (e : Expr) (Γ : List Ent) (b : Bool) : Prop := TWp X M e Γ (fun c => c = b)
/-- a list that was made just now -/
def EFt (X : Cx) (M N : Md) (e : Expr) (Γ : List Ent) {α : Type} (R : Rp α) (P : List α → Prop) : Prop :=
  ∀ (H0 G H : Hp) (σ : St), Stt M H0 Γ σ G H → ∀ Q : VK, (∀ p vs xs G' H', P xs → Step N G H G' H' → H p = none → G' p = none → H' p = some (.lst vs) → Paired (R.rel G') vs xs → Q (.ref p) H') → tOf X e σ H Q
abbrev EFp (X : Cx) (M : Md) (e : Expr) (Γ : List Ent) {α : Type} (R : Rp α) (P : List α → Prop) : Prop := EFt X M M e Γ R P
abbrev EF (X : Cx) (M : Md) (e : Expr) (Γ : List Ent) {α : Type} (R : Rp α) (xs : List α) : Prop := EFp X M e Γ R (fun y => y = xs)
/-- an argument's value -/
def ArgOk (G : Hp) : V → Ent → Prop
  | _, .any => True
  | v, .val R x => R.rel G v x
  | _, .own _ _ => False
  | _, .own2 _ => False
  | v, .adr a => v = .ref a
  | _, .obj _ _ _ => False
theorem ArgOk.mono {G G' : Hp} {v : V} (h : Same G G') : ∀ {e : Ent}, ArgOk G v e → ArgOk G' v e
  | .any, _ => trivial
  | .val R _, q => R.mono h q
  | .own _ _, q => q
  | .own2 _, q => q
  | .adr _, q => q
  | .obj _ _ _, q => q
def ArgsOk (G : Hp) (vs : List V) (as : List Ent) : Prop := vs.length = as.length ∧ ∀ (i : Nat) (v : V) (e : Ent), vs[i]? = some v → as[i]? = some e → ArgOk G v e
def EAt (X : Cx) (M N : Md) (es : List Expr) (Γ : List Ent) (A : List Ent → Prop) : Prop :=
  ∀ (H0 G H : Hp) (σ : St), Stt M H0 Γ σ G H → ∀ Q : List V → Hp → Prop, (∀ vs as G' H', A as → Step N G H G' H' → ArgsOk G' vs as → Q vs H') → taOf X es σ H Q
abbrev EAp (X : Cx) (M : Md) (es : List Expr) (Γ : List Ent) (A : List Ent → Prop) : Prop := EAt X M M es Γ A
abbrev EA (X : Cx) (M : Md) (es : List Expr) (Γ : List Ent) (as : List Ent) : Prop := EAp X M es Γ (fun y => y = as)
structure Post where
  nx : List Ent → Prop := fun _ => False
  rt : Ent → Prop := fun _ => False
  bk : List Ent → Prop := fun _ => False
  ct : List Ent → Prop := fun _ => False
structure Meets (M : Md) (G0 H0 : Hp) (Po : Post) (D : Ends) : Prop where
  nx : ∀ Γ σ G H, Po.nx Γ → Stt M H0 Γ σ G H → Step M G0 H0 G H → D.nx σ H
  rt : ∀ {α : Type} (R : Rp α) x v G H, Po.rt (.val R x) → Step M G0 H0 G H → R.rel G v x → D.rt v H
  bk : ∀ Γ σ G H, Po.bk Γ → Stt M H0 Γ σ G H → Step M G0 H0 G H → D.bk σ H
  ct : ∀ Γ σ G H, Po.ct Γ → Stt M H0 Γ σ G H → Step M G0 H0 G H → D.ct σ H
/-- ahead of the statement M, behind it T -/
def S1t (X : Cx) (M T : Md) (st : Stmt) (Γ : List Ent) (Po : Post) : Prop :=
  ∀ (G0 H0 G H : Hp) (σ : St) (D : Ends), Stt M H0 Γ σ G H → Step M G0 H0 G H → Meets T G0 H0 Po D → s1Of X st D σ H
def SSt (X : Cx) (M T : Md) (sts : List Stmt) (Γ : List Ent) (Po : Post) : Prop :=
  ∀ (G0 H0 G H : Hp) (σ : St) (D : Ends), Stt M H0 Γ σ G H → Step M G0 H0 G H → Meets T G0 H0 Po D → sOf X sts D σ H
abbrev S1 (X : Cx) (M : Md) (st : Stmt) (Γ : List Ent) (Po : Post) : Prop := S1t X M M st Γ Po
abbrev SS (X : Cx) (M : Md) (sts : List Stmt) (Γ : List Ent) (Po : Post) : Prop := SSt X M M sts Γ Po
theorem Meets.le {M T : Md} {G0 H0 : Hp} {Po : Post} {D : Ends} (l : Le M T) (m : Meets T G0 H0 Po D) : Meets M G0 H0 Po D :=
  ⟨fun Γ σ G H n t s => m.nx Γ σ G H n (t.le l) (s.le l), fun R x v G H p s r => m.rt R x v G H p (s.le l) r, fun Γ σ G H n t s => m.bk Γ σ G H n (t.le l) (s.le l), fun Γ σ G H n t s => m.ct Γ σ G H n (t.le l) (s.le l)⟩

/-! ### the law's own state: a dict at st, a list at g, a list at c that stays; its turns so far are at most b -/
def dkSt (g c : Addr) (r t : Int) : List (Key × V) := [(.inr "great", .ref g), (.inr "cells", .ref c), (.inr "rest", .int r), (.inr "turn", .int t)]
def IS (st g c : Addr) (b : Nat) (G H : Hp) : Prop := ∃ (gs cs : List Int) (r t : Int), H st = some (.dK (dkSt g c r t)) ∧ H g = some (.lst (gs.map V.int)) ∧ Rd G c (.lst (cs.map V.int)) ∧ 0 ≤ t ∧ t ≤ b
def MdS (st g c : Addr) (b : Nat) : Md := ⟨[st, g], IS st g c b, fun ⟨gs, cs, r, t, h1, h2, h3, h4⟩ s1 _ h _ => ⟨gs, cs, r, t, by rw [h st (by simp)]; exact h1, by rw [h g (by simp)]; exact h2, same_rd s1 h3, h4⟩,
  fun ⟨_, cs, _, _, _, _, h3, _⟩ ⟨gs, _, r, t, h1, h2, _, h4⟩ s _ _ _ => ⟨gs, cs, r, t, h1, h2, same_rd s h3, h4⟩⟩
theorem Le.up {st g c : Addr} {b b' : Nat} (h : b ≤ b') : Le (MdS st g c b) (MdS st g c b') := ⟨rfl, fun G H ⟨gs, cs, r, t, h1, h2, h3, h4, h5⟩ => ⟨gs, cs, r, t, h1, h2, h3, h4, by omega⟩⟩
theorem szOk_of {P : Program} {w : World} {H : Hp} {h : Heap} (k : HOk P w H h) : SzOk H := fun a xs r => by
  rcases r with r | r
  · exact (r.ok k).1
  · exact (r.ok k).1
end RT

/-! RT1: blocks, defs, own lists. -/
namespace RT
open PySem L2
open PyProof.Rows (envOfC)

/-! ### changing what is known -/
section
variable {M M1 T : Md} {G0 H0 G H G' H' : Hp} {Po Po' : Post} {D : Ends} {X : Cx} {Γ Γ' : List Ent} {st : Stmt} {sts rest : List Stmt} {N : List Ent → Prop}
theorem Meets.imp (m : Meets M G0 H0 Po D) (h1 : ∀ Γ, Po'.nx Γ → ∃ Γ', Weak Γ Γ' ∧ Po.nx Γ') (h2 : ∀ e, Po'.rt e → Po.rt e) (h3 : ∀ Γ, Po'.bk Γ → ∃ Γ', Weak Γ Γ' ∧ Po.bk Γ') (h4 : ∀ Γ, Po'.ct Γ → ∃ Γ', Weak Γ Γ' ∧ Po.ct Γ') : Meets M G0 H0 Po' D :=
  ⟨fun Γ σ G H p t s => let ⟨Γ', w, q⟩ := h1 Γ p; m.nx Γ' σ G H q (t.weak w) s, fun R x v G H p s r => m.rt R x v G H (h2 _ p) s r,
   fun Γ σ G H p t s => let ⟨Γ', w, q⟩ := h3 Γ p; m.bk Γ' σ G H q (t.weak w) s, fun Γ σ G H p t s => let ⟨Γ', w, q⟩ := h4 Γ p; m.ct Γ' σ G H q (t.weak w) s⟩
theorem ss_nil (h : Po.nx Γ) (hle : Le M T := by first | exact Le.refl _ | assumption | exact Le.up (by omega)) : SSt X M T [] Γ Po := fun G0 H0 G H σ D t s m => of_pss pss_nil ((m.le hle).nx Γ σ G H h t s)
theorem ss_nilW (w : Weak Γ Γ') (h : Po.nx Γ') (hle : Le M T := by first | exact Le.refl _ | assumption | exact Le.up (by omega)) : SSt X M T [] Γ Po := fun G0 H0 G H σ D t s m => of_pss pss_nil ((m.le hle).nx Γ' σ G H h (t.weak w) s)
theorem ss_consL (hle : Le M1 T) (h1 : S1t X M M1 st Γ { Po with nx := N }) (h2 : ∀ Γ', N Γ' → SSt X M1 T rest Γ' Po) : SSt X M T (st :: rest) Γ Po := fun G0 H0 G H σ D t s m =>
  of_pss (pss_cons ps_of pss_of) (h1 G0 H0 G H σ { D with nx := sOf X rest D } t s ⟨fun Γ' σ' G' H' n t' s' => h2 Γ' n G0 H0 G' H' σ' D t' s' m, (m.le hle).rt, (m.le hle).bk, (m.le hle).ct⟩)
/-- a statement that does nothing but go on to the rest -/
theorem ss_consG (h1 : S1t X M M1 st Γ { nx := N }) (h2 : ∀ Γ', N Γ' → SSt X M1 T rest Γ' Po) : SSt X M T (st :: rest) Γ Po := fun G0 H0 G H σ D t s m =>
  of_pss (pss_cons ps_of pss_of) (h1 G0 H0 G H σ { D with nx := sOf X rest D } t s ⟨fun Γ' σ' G' H' n t' s' => h2 Γ' n G0 H0 G' H' σ' D t' s' m, fun _ _ _ _ _ z => z.elim, fun _ _ _ _ z => z.elim, fun _ _ _ _ z => z.elim⟩)
theorem ss_cons (h1 : S1 X M st Γ { Po with nx := N }) (h2 : ∀ Γ', N Γ' → SSt X M T rest Γ' Po) (hle : Le M T := by first | exact Le.refl _ | assumption | exact Le.up (by omega)) : SSt X M T (st :: rest) Γ Po := ss_consL hle h1 h2
theorem ss_one (h : S1t X M T st Γ Po) : SSt X M T [st] Γ Po := fun G0 H0 G H σ D t s m => of_pss (pss_one ps_of) (h G0 H0 G H σ D t s m)
/-- less is told ahead of the rest -/
theorem ss_weak (w : Weak Γ Γ') (h : SSt X M T sts Γ' Po) : SSt X M T sts Γ Po := fun G0 H0 G H σ D t s m => h G0 H0 G H σ D (t.weak w) s m
theorem ss_imp (h : SSt X M T sts Γ Po') (h1 : ∀ Γ, Po'.nx Γ → ∃ Γ', Weak Γ Γ' ∧ Po.nx Γ') (h2 : ∀ e, Po'.rt e → Po.rt e) (h3 : ∀ Γ, Po'.bk Γ → ∃ Γ', Weak Γ Γ' ∧ Po.bk Γ') (h4 : ∀ Γ, Po'.ct Γ → ∃ Γ', Weak Γ Γ' ∧ Po.ct Γ') : SSt X M T sts Γ Po :=
  fun G0 H0 G H σ D t s m => h G0 H0 G H σ D t s (m.imp h1 h2 h3 h4)

theorem ss_up {N : Md} (l : Le M N) (h : SSt X N T sts Γ Po) : SSt X M T sts Γ Po := fun G0 H0 G H σ D t s m => h G0 H0 G H σ D (t.le l) (s.le l) m
theorem ss_down {N : Md} (l : Le N T) (h : SSt X M N sts Γ Po) : SSt X M T sts Γ Po := fun G0 H0 G H σ D t s m => h G0 H0 G H σ D t s (m.le l)

/-! ### own lists -/
variable {α β : Type} {R : Rp α} {x : α} {xs : List α} {i j : Nat} {a p : Addr} {vs : List V} {v : V} {σ : St} {F : List Addr}
/-- a slot takes a list that was made just now -/
theorem Stt.putOwn (t : Stt M H0 Γ σ G H) (t' : Stt M H0 Γ σ G' H') (i : Nat) (hp : H p = none) (h0 : H0 p = none) (hg : G' p = none) (hh : H' p = some (.lst vs)) (r : Paired (R.rel G') vs xs) : Stt M H0 (Γ.set i (.own R xs)) (σ.set i (some (V.ref p))) G' H' := by
  refine t'.put (fun hl => ⟨p, vs, List.getElem?_set_self (by rw [t.len]; exact hl), hh, hg, t.ok.nf hp, h0, r⟩) (fun _ j a hj ho e q => ?_)
  cases e
  cases e' : Γ[j]? with
  | none => rw [e'] at ho; exact ho
  | some u =>
    rw [e'] at ho
    cases u with
    | own R' xs' =>
      obtain ⟨b, ws, h1, h2, _⟩ := t.ent j _ e'
      rw [q] at h1; cases h1
      rw [hp] at h2; cases h2
    | own2 U =>
      obtain ⟨b, ws, h1, h2, _⟩ := t.ent j _ e'
      rw [q] at h1; cases h1
      rw [hp] at h2; cases h2
    | obj b C fs =>
      obtain ⟨dx, ws, h1, h2, _⟩ := t.ent j _ e'
      rw [q] at h1; cases h1
      rw [hp] at h2; cases h2
    | any => exact ho
    | val _ _ => exact ho
    | adr _ => exact ho
theorem Stt.putOwn2 (hF : M.F = T.F) (t : Stt M H0 Γ σ G H) (t' : Stt T H0 Γ σ G' H') (i : Nat) (hp : H p = none) (h0 : H0 p = none) (hg : G' p = none) (hh : H' p = some (.lst vs)) (r : Paired (R.rel G') vs xs) : Stt T H0 (Γ.set i (.own R xs)) (σ.set i (some (V.ref p))) G' H' := by
  refine t'.put (fun hl => ⟨p, vs, List.getElem?_set_self (by rw [t.len]; exact hl), hh, hg, by rw [← hF]; exact t.ok.nf hp, h0, r⟩) (fun _ j a hj ho e q => ?_)
  cases e
  cases e' : Γ[j]? with
  | none => rw [e'] at ho; exact ho
  | some u =>
    rw [e'] at ho
    cases u with
    | own R' xs' =>
      obtain ⟨b, ws, h1, h2, _⟩ := t.ent j _ e'
      rw [q] at h1; cases h1
      rw [hp] at h2; cases h2
    | own2 U =>
      obtain ⟨b, ws, h1, h2, _⟩ := t.ent j _ e'
      rw [q] at h1; cases h1
      rw [hp] at h2; cases h2
    | obj b C fs =>
      obtain ⟨dx, ws, h1, h2, _⟩ := t.ent j _ e'
      rw [q] at h1; cases h1
      rw [hp] at h2; cases h2
    | any => exact ho
    | val _ _ => exact ho
    | adr _ => exact ho
theorem ent_upd (hv : ∀ y, H p ≠ some (.own y)) {e : Ent} (h : EntOk M.F H0 G H σ i e) (hne : ∀ a, IsOwn (some e) → σ[i]? = some (some (V.ref a)) → a ≠ p) {u : HO} : EntOk M.F H0 G (upd H p u) σ i e := by
  cases e with
  | any => trivial
  | val R x => exact h
  | own R xs =>
    obtain ⟨a, vs, h1, h2, h3⟩ := h
    exact ⟨a, vs, h1, by rw [upd_ne (hne a trivial h1)]; exact h2, h3⟩
  | own2 U =>
    obtain ⟨a, vs, h1, h2, h3⟩ := h
    exact ⟨a, vs, h1, by rw [upd_ne (hne a trivial h1)]; exact h2, h3⟩
  | adr a => exact h
  | obj a C fs =>
    obtain ⟨dx, vs, h1, h2, h3, h4⟩ := h
    exact ⟨dx, vs, h1, by rw [upd_ne (hne a trivial h1)]; exact h2, by rw [upd_ne fun z => hv a (by rw [← z]; exact h3)]; exact h3, h4⟩
theorem notExtL {H : Hp} {p : Addr} {vs : List V} (h : H p = some (.lst vs)) : ∀ φ, H p ≠ some (.ext φ) := fun _ z => by rw [h] at z; cases z
theorem notExtK {H : Hp} {p : Addr} {vs : List (Key × V)} (h : H p = some (.dK vs)) : ∀ φ, H p ≠ some (.ext φ) := fun _ z => by rw [h] at z; cases z
theorem notExtF {H : Hp} {p : Addr} {o : Obj} {u : HO} (h : H p = some (.frz o u)) : ∀ φ, H p ≠ some (.ext φ) := fun _ z => by rw [h] at z; cases z
theorem upd_notExt {H : Hp} {p : Addr} {u : HO} (h : ∀ φ, u ≠ .ext φ) : ∀ φ, upd H p u p ≠ some (.ext φ) := fun φ z => by rw [upd_same] at z; exact h φ (Option.some.inj z)
/-- the list of a slot becomes another one -/
theorem Stt.chg {β : Type} {S : Rp β} {ys : List β} {ws : List V} (t : Stt M H0 Γ σ G H) (hi : Γ[i]? = some (.own R xs)) (hs : σ[i]? = some (some (V.ref p))) (hz : ws.length ≤ sizeLine) (r : Paired (S.rel G) ws ys) : Stt M H0 (Γ.set i (.own S ys)) σ G (upd H p (.lst ws)) := by
  obtain ⟨a, vs, h1, h2, h3, h4, h5, h6⟩ := t.ent i _ hi
  rw [hs] at h1; cases h1
  have hl : i < Γ.length := (List.getElem?_eq_some_iff.mp hi).1
  refine ⟨⟨same_updR t.ok.gh h3, szOk_upd t.ok.sz hz, M.up t.ok.i (Same.refl _) (same_updR t.ok.gh h3) (fun b hb => upd_ne (fun z => h4 (by rw [← z]; exact hb))) (fun b φ z => by rw [upd_ne fun q => (by rw [q, h2] at z; cases z)]; exact z), fun b hb => ⟨?_, (t.ok.f b hb).2⟩⟩, by simpa using t.len, fun j e h => ?_, fun j k b hjk o1 o2 => ?_⟩
  · rw [upd_ne (fun z => h4 (by rw [← z]; exact hb))]; exact (t.ok.f b hb).1
  · by_cases hj : i = j
    · subst hj
      rw [List.getElem?_set_self hl] at h; cases h
      exact ⟨p, ws, hs, upd_same, h3, h4, h5, r⟩
    · rw [List.getElem?_set_ne hj] at h
      refine ent_upd (fun y z => by rw [h2] at z; cases z) (t.ent j e h) fun b ob hb z => ?_
      subst z
      exact t.dis i j b hj (by rw [hi]; trivial) (by rw [h]; exact ob) hs hb
  · have w : ∀ m, IsOwn (Γ.set i (.own S ys))[m]? → IsOwn Γ[m]? := fun m o => by
      rcases isOwn_set o with ⟨e, _⟩ | ⟨_, o⟩
      · rw [e, hi]; trivial
      · exact o
    exact t.dis j k b hjk (w j o1) (w k o2)
theorem Step.chg (s : Step M G0 H0 G H) (t : Okk M G H) (h3 : G p = none) (h4 : p ∉ M.F) (h5 : H0 p = none) {ws : List V} (hz : ws.length ≤ sizeLine) (hx : ∀ φ, H p ≠ some (.ext φ) := by first | exact notExtL (by assumption) | exact notExtK (by assumption) | exact notExtF (by assumption) | exact upd_notExt (fun _ z => nomatch z)) : Step M G0 H0 G (upd H p (.lst ws)) :=
  ⟨s.g, same_updR s.gh h3, szOk_upd s.sz hz, fun b o hb e => by rw [upd_ne (ne_of_none e h5)]; exact s.h b o hb e, s.nw, M.up t.i (Same.refl _) (same_updR s.gh h3) (fun b hb => upd_ne (fun z => h4 (by rw [← z]; exact hb))) (fun b φ z => by rw [upd_ne fun q => hx φ (by rw [← q]; exact z)]; exact z),
   fun b hb => by rw [upd_ne (fun z => h4 (by rw [← z]; exact hb))]; exact s.f b hb⟩
/-- an own list stands for ever from here on -/
theorem Stt.freeze (t : Stt M H0 Γ σ G H) (hi : Γ[i]? = some (.own R xs)) (s : Step M G0 H0 G H) : ∃ G', Stt M H0 (Γ.set i (.val (rLst R) xs)) σ G' H ∧ Step M G0 H0 G' H := by
  obtain ⟨a, vs, h1, h2, h3, h4, h5, h6⟩ := t.ent i _ hi
  have hl : i < Γ.length := (List.getElem?_eq_some_iff.mp hi).1
  have g1 : Same G (upd G a (.lst vs)) := same_upd h3
  have g2 : Same (upd G a (.lst vs)) H := fun b u e => by
    by_cases hb : b = a
    · subst hb; rw [upd_same] at e; cases e; exact h2
    · rw [upd_ne hb] at e; exact t.ok.gh b u e
  have I' : M.I (upd G a (.lst vs)) H := M.up t.ok.i g1 g2 (fun _ _ => rfl) (fun _ _ z => z)
  refine ⟨upd G a (.lst vs), ⟨⟨g2, t.ok.sz, I', fun b hb => ⟨(t.ok.f b hb).1, by rw [upd_ne (fun z => h4 (by rw [← z]; exact hb))]; exact (t.ok.f b hb).2⟩⟩, by simpa using t.len, fun j e h => ?_, fun j k b hjk o1 o2 => ?_⟩,
    ⟨s.g.trans g1, g2, s.sz, s.h, fun b hb e => ?_, I', s.f⟩⟩
  · by_cases hj : i = j
    · subst hj
      rw [List.getElem?_set_self hl] at h; cases h
      exact ⟨.ref a, h1, a, vs, rfl, .inl upd_same, R.pmono g1 h6⟩
    · rw [List.getElem?_set_ne hj] at h
      have q := t.ent j e h
      cases e with
      | any => trivial
      | val R' x' => obtain ⟨w, z1, z2⟩ := q; exact ⟨w, z1, R'.mono g1 z2⟩
      | own R' xs' =>
        obtain ⟨b, ws, z1, z2, z3, z4, z5, z6⟩ := q
        have nb : b ≠ a := fun z => t.dis i j a hj (by rw [hi]; trivial) (by rw [h]; trivial) h1 (by rw [← z]; exact z1)
        exact ⟨b, ws, z1, z2, by rw [upd_ne nb]; exact z3, z4, z5, R'.pmono g1 z6⟩
      | own2 U =>
        obtain ⟨b, ws, z1, z2, z3, z4, z5, z6⟩ := q
        have nb : b ≠ a := fun z => t.dis i j a hj (by rw [hi]; trivial) (by rw [h]; trivial) h1 (by rw [← z]; exact z1)
        exact ⟨b, ws, z1, z2, by rw [upd_ne nb]; exact z3, z4, z5, U.mono g1 z6⟩
      | adr b => exact q
      | obj b C fs =>
        obtain ⟨dx, ws, z1, z2, z3, z4, z5, z6, z7, z8, z9, z10, z11⟩ := q
        have nb : b ≠ a := fun z => t.dis i j a hj (by rw [hi]; trivial) (by rw [h]; trivial) h1 (by rw [← z]; exact z1)
        have nd : dx ≠ a := fun z => by rw [z, h2] at z3; cases z3
        exact ⟨dx, ws, z1, z2, z3, z4, by rw [upd_ne nb]; exact z5, by rw [upd_ne nd]; exact z6, z7, z8, z9, z10, z11.mono g1⟩
  · have w : ∀ m, IsOwn (Γ.set i (.val (rLst R) xs))[m]? → IsOwn Γ[m]? := fun m o => by
      rcases isOwn_set o with ⟨e, o⟩ | ⟨_, o⟩
      · exact o.elim
      · exact o
    exact t.dis j k b hjk (w j o1) (w k o2)
  · by_cases hb' : b = a
    · subst hb'; exact absurd h5 hb
    · rw [upd_ne hb']; exact s.nw b hb e
/-- .. in a block -/
theorem ss_freeze (i : Nat) (hi : Γ[i]? = some (.own R xs)) (h : SSt X M T sts (Γ.set i (.val (rLst R) xs)) Po) : SSt X M T sts Γ Po := fun G0 H0 G H σ D t s m =>
  let ⟨G', t', s'⟩ := t.freeze hi s
  h G0 H0 G' H σ D t' s' m
theorem EFt.ev {N : Md} {e : Expr} {P : List α → Prop} (h : EFt X M N e Γ R P) : EVt X M N e Γ (rLst R) P := fun H0 G H σ t Q k =>
  h H0 G H σ t Q fun p vs xs G' H' hP s hp hg hh r => by
    have g1 : Same G' (upd G' p (.lst vs)) := same_upd hg
    have g2 : Same (upd G' p (.lst vs)) H' := fun b u e => by
      by_cases hb : b = p
      · subst hb; rw [upd_same] at e; cases e; exact hh
      · rw [upd_ne hb] at e; exact s.gh b u e
    refine k _ xs (upd G' p (.lst vs)) H' hP ⟨s.g.trans g1, g2, s.sz, s.h, fun b hb e => ?_, N.up s.i g1 g2 (fun _ _ => rfl) (fun _ _ z => z), s.f⟩ ⟨p, vs, rfl, .inl upd_same, R.pmono g1 r⟩
    rw [upd_ne fun z => hb (by rw [z]; exact hp)]; exact s.nw b hb e

/-! ### statements -/
variable {e : Expr} {pos py : Pos} {y : Str} {P : α → Prop} {es : List Expr}
theorem s1_ret (h : EVt X M M1 e Γ R P) (hp : ∀ x, P x → Po.rt (.val R x)) (hF : M.F = M1.F := by first | rfl | assumption) (hle : Le M1 T := by first | exact Le.refl _ | assumption | exact Le.up (by omega)) : S1t X M T (.Return (some e) pos) Γ Po := fun G0 H0 G H σ D t s m =>
  of_ps (ps_ret pe_of) (h H0 G H σ t D.rt fun v x G' H' px s' r => (m.le hle).rt R x v G' H' (hp x px) (s.trans2 hF s') r)
theorem ss_ret (h : EVt X M M1 e Γ R P) (hp : ∀ x, P x → Po.rt (.val R x)) (hF : M.F = M1.F := by first | rfl | assumption) (hle : Le M1 T := by first | exact Le.refl _ | assumption | exact Le.up (by omega)) : SSt X M T (.Return (some e) pos :: rest) Γ Po := fun G0 H0 G H σ D t s m =>
  of_pss (pss_cons ps_of pss_of) (s1_ret (Po := { Po with nx := fun _ => False }) h hp hF hle G0 H0 G H σ { D with nx := sOf X rest D } t s ⟨fun Γ' σ' G' H' n _ _ => n.elim, m.rt, m.bk, m.ct⟩)
theorem ss_retV (h : EV X M e Γ R x) (hp : Po.rt (.val R x)) (hle : Le M T := by first | exact Le.refl _ | assumption | exact Le.up (by omega)) : SSt X M T (.Return (some e) pos :: rest) Γ Po := ss_ret h (fun _ z => z ▸ hp) rfl hle
theorem s1_set (i : Nat) (hN : X.N.Nodup) (he : EVt X M T e Γ R P) (hp : ∀ x, P x → Po.nx (Γ.set i (.val R x))) (hi : X.N[i]? = some y := by rfl) (hx : Loc X.env.scope y := by first | exact Or.inl rfl | exact Or.inr rfl)
    (hs : swapsWith e (some (.Name y py)) pos.line X.env = pure false := by rfl) (hf : X.fn y = true ∨ X.env.scope.names.lookup y = some .local := by first | exact .inl rfl | exact .inr rfl | assumption) (hF : M.F = T.F := by first | rfl | assumption) : S1t X M T (.Assign [.Name y py] e pos) Γ Po := fun G0 H0 G H σ D t s m =>
  of_ps (ps_set (i := i) hN hi hx pe_of hs hf) (he H0 G H σ t _ fun v x G' H' px s' r => m.nx _ _ G' H' (hp x px) ((t.step2 hF s').putV i r) (s.trans2 hF s'))
theorem ss_setP (i : Nat) (hN : X.N.Nodup) (he : EVt X M M1 e Γ R P) (hp : ∀ x, P x → SSt X M1 T rest (Γ.set i (.val R x)) Po) (hi : X.N[i]? = some y := by rfl) (hx : Loc X.env.scope y := by first | exact Or.inl rfl | exact Or.inr rfl)
    (hs : swapsWith e (some (.Name y py)) pos.line X.env = pure false := by rfl) (hf : X.fn y = true ∨ X.env.scope.names.lookup y = some .local := by first | exact .inl rfl | exact .inr rfl | assumption) (hF : M.F = M1.F := by first | rfl | assumption) : SSt X M T (.Assign [.Name y py] e pos :: rest) Γ Po :=
  ss_consG (N := fun Γ' => ∃ x, P x ∧ Γ' = Γ.set i (.val R x)) (s1_set i hN he (fun x px => ⟨x, px, rfl⟩) hi hx hs hf hF) fun Γ' ⟨x, px, q⟩ => q ▸ hp x px
theorem ss_set (i : Nat) (hN : X.N.Nodup) (he : EV X M e Γ R x) (hp : SSt X M T rest (Γ.set i (.val R x)) Po) (hi : X.N[i]? = some y := by rfl) (hx : Loc X.env.scope y := by first | exact Or.inl rfl | exact Or.inr rfl)
    (hs : swapsWith e (some (.Name y py)) pos.line X.env = pure false := by rfl) (hf : X.fn y = true ∨ X.env.scope.names.lookup y = some .local := by first | exact .inl rfl | exact .inr rfl | assumption) : SSt X M T (.Assign [.Name y py] e pos :: rest) Γ Po :=
  ss_setP i hN he (fun _ z => z ▸ hp) hi hx hs hf rfl
/-- a name takes a new list that may change -/
theorem s1_setF (i : Nat) (hN : X.N.Nodup) {P : List α → Prop} (he : EFt X M T e Γ R P) (hp : ∀ xs, P xs → Po.nx (Γ.set i (.own R xs))) (hi : X.N[i]? = some y := by rfl) (hx : Loc X.env.scope y := by first | exact Or.inl rfl | exact Or.inr rfl)
    (hs : swapsWith e (some (.Name y py)) pos.line X.env = pure false := by rfl) (hf : X.fn y = true ∨ X.env.scope.names.lookup y = some .local := by first | exact .inl rfl | exact .inr rfl | assumption) (hF : M.F = T.F := by first | rfl | assumption) : S1t X M T (.Assign [.Name y py] e pos) Γ Po := fun G0 H0 G H σ D t s m =>
  of_ps (ps_set (i := i) hN hi hx pe_of hs hf) (he H0 G H σ t _ fun p vs xs G' H' px s' hp' hg hh r => m.nx _ _ G' H' (hp xs px) (t.putOwn2 hF (t.step2 hF s') i hp' (s.fresh hp') hg hh r) (s.trans2 hF s'))
theorem ss_setFP (i : Nat) (hN : X.N.Nodup) {P : List α → Prop} (he : EFt X M M1 e Γ R P) (hp : ∀ xs, P xs → SSt X M1 T rest (Γ.set i (.own R xs)) Po) (hi : X.N[i]? = some y := by rfl) (hx : Loc X.env.scope y := by first | exact Or.inl rfl | exact Or.inr rfl)
    (hs : swapsWith e (some (.Name y py)) pos.line X.env = pure false := by rfl) (hf : X.fn y = true ∨ X.env.scope.names.lookup y = some .local := by first | exact .inl rfl | exact .inr rfl | assumption) (hF : M.F = M1.F := by first | rfl | assumption) : SSt X M T (.Assign [.Name y py] e pos :: rest) Γ Po :=
  ss_consG (N := fun Γ' => ∃ xs, P xs ∧ Γ' = Γ.set i (.own R xs)) (s1_setF i hN he (fun xs px => ⟨xs, px, rfl⟩) hi hx hs hf hF) fun Γ' ⟨xs, px, q⟩ => q ▸ hp xs px
theorem ss_setF (i : Nat) (hN : X.N.Nodup) (he : EF X M e Γ R xs) (hp : SSt X M T rest (Γ.set i (.own R xs)) Po) (hi : X.N[i]? = some y := by rfl) (hx : Loc X.env.scope y := by first | exact Or.inl rfl | exact Or.inr rfl)
    (hs : swapsWith e (some (.Name y py)) pos.line X.env = pure false := by rfl) (hf : X.fn y = true ∨ X.env.scope.names.lookup y = some .local := by first | exact .inl rfl | exact .inr rfl | assumption) : SSt X M T (.Assign [.Name y py] e pos :: rest) Γ Po :=
  ss_setFP i hN he (fun xs px => px ▸ hp) hi hx hs hf rfl
theorem s1_expr (he : EVt X M T e Γ R P) (hp : Po.nx Γ) (hs : swapsWith e none pos.line X.env = pure false := by rfl) (hF : M.F = T.F := by first | rfl | assumption) : S1t X M T (.Expr e pos) Γ Po := fun G0 H0 G H σ D t s m =>
  of_ps (ps_expr pe_of hs) (he H0 G H σ t _ fun v x G' H' px s' r => m.nx Γ σ G' H' hp (t.step2 hF s') (s.trans2 hF s'))
theorem ss_expr (he : EVt X M M1 e Γ R P) (hr : SSt X M1 T rest Γ Po) (hs : swapsWith e none pos.line X.env = pure false := by rfl) (hF : M.F = M1.F := by first | rfl | assumption) : SSt X M T (.Expr e pos :: rest) Γ Po :=
  ss_consG (N := fun Γ' => Γ' = Γ) (s1_expr he rfl hs hF) fun _ q => q ▸ hr
variable {c : Expr} {sa sb : List Stmt} {b : Bool} {Pb : Bool → Prop}
theorem s1_if (hc : TVp X M c Γ Pb) (ha : Pb true → SSt X M T sa Γ Po) (hb : Pb false → SSt X M T sb Γ Po) : S1t X M T (.If c sa sb pos) Γ Po := fun G0 H0 G H σ D t s m =>
  of_ps (ps_if pt_of pss_of pss_of) (hc H0 G H σ t _ fun b G' H' pb s' => by
    cases b with
    | true => rw [if_pos rfl]; exact ha pb G0 H0 G' H' σ D (t.step s') (s.trans s') m
    | false => rw [if_neg Bool.false_ne_true]; exact hb pb G0 H0 G' H' σ D (t.step s') (s.trans s') m)
/-- if, then the rest -/
theorem ss_ifcL (hle : Le M1 T) (hc : TVp X M c Γ Pb) (ha : Pb true → SSt X M M1 sa Γ { Po with nx := N }) (hb : Pb false → SSt X M M1 sb Γ { Po with nx := N }) (hr : ∀ Γ', N Γ' → SSt X M1 T rest Γ' Po) : SSt X M T (.If c sa sb pos :: rest) Γ Po := ss_consL hle (s1_if hc ha hb) hr
theorem ss_ifc (hc : TVp X M c Γ Pb) (ha : Pb true → SS X M sa Γ { Po with nx := N }) (hb : Pb false → SS X M sb Γ { Po with nx := N }) (hr : ∀ Γ', N Γ' → SSt X M T rest Γ' Po) (hle : Le M T := by first | exact Le.refl _ | assumption | exact Le.up (by omega)) : SSt X M T (.If c sa sb pos :: rest) Γ Po := ss_consL hle (s1_if hc ha hb) hr
/-- if c: return ..; the rest where c is not so -/
theorem ss_ifr (hc : TV X M c Γ b) (ha : b = true → SS X M sa Γ { Po with nx := fun _ => False }) (hr : b = false → SSt X M T rest Γ Po) (hle : Le M T := by first | exact Le.refl _ | assumption | exact Le.up (by omega)) : SSt X M T (.If c sa [] pos :: rest) Γ Po :=
  ss_consL hle (N := fun Γ' => Γ' = Γ ∧ b = false) (s1_if hc (fun h => ss_imp (ha h.symm) (fun _ z => z.elim) (fun _ z => z) (fun G z => ⟨G, Weak.refl _, z⟩) (fun G z => ⟨G, Weak.refl _, z⟩)) (fun h => ss_nil ⟨rfl, h.symm⟩)) fun _ ⟨q, h⟩ => q ▸ hr h
/-- if c: ..; c is not so -/
theorem ss_ifn (hc : TV X M c Γ false) (hr : SSt X M T rest Γ Po) : SSt X M T (.If c sa [] pos :: rest) Γ Po :=
  ss_consG (N := fun Γ' => Γ' = Γ) (s1_if hc (fun h => by cases h) (fun _ => ss_nil rfl)) fun _ q => q ▸ hr
/-- if c: ..; c is so -/
theorem ss_ify (hc : TV X M c Γ true) (ha : SS X M sa Γ { Po with nx := N }) (hr : ∀ Γ', N Γ' → SSt X M T rest Γ' Po) (hle : Le M T := by first | exact Le.refl _ | assumption | exact Le.up (by omega)) : SSt X M T (.If c sa sb pos :: rest) Γ Po :=
  ss_ifc hc (fun _ => ha) (fun h => by cases h) hr hle
theorem s1_pass (h : Po.nx Γ) : S1 X M (.Pass pos) Γ Po := fun G0 H0 G H σ D t s m => of_ps ps_pass (m.nx Γ σ G H h t s)
theorem s1_cont (h : Po.ct Γ) : S1 X M (.Continue pos) Γ Po := fun G0 H0 G H σ D t s m => of_ps ps_continue (m.ct Γ σ G H h t s)
theorem s1_brk (h : Po.bk Γ) : S1 X M (.Break pos) Γ Po := fun G0 H0 G H σ D t s m => of_ps ps_break (m.bk Γ σ G H h t s)

/-! ### defs -/
/-- what a def promises: of such arguments (in such a mode) it hands back such a value -/
abbrev Ctr := Md → List Ent → (Ent → Prop) → Prop
def spC (C : Ctr) : Sp := fun vs H Q _ => ∃ (M : Md) (G : Hp) (as : List Ent) (res : Ent → Prop), C M as res ∧ Okk M G H ∧ ArgsOk G vs as ∧ ∀ {α : Type} (R : Rp α) (x : α) (v : V) (G' H' : Hp), res (.val R x) → Step M G H G' H' → R.rel G' v x → Q v H'
end
theorem start_at {N : List Str} {vs : List V} {i : Nat} {v : V} (h : vs[i]? = some v) : (L2.start N vs)[i]? = some (some v) := by
  unfold L2.start
  have hl : i < vs.length := (List.getElem?_eq_some_iff.mp h).1
  rw [List.getElem?_append_left (by simpa using hl), List.getElem?_map, h]
  rfl
theorem stt_start {M : Md} {G H : Hp} {N : List Str} {vs : List V} {as : List Ent} (o : Okk M G H) (ha : ArgsOk G vs as) (hl : as.length ≤ N.length) : Stt M H (as ++ List.replicate (N.length - as.length) Ent.any) (L2.start N vs) G H := by
  obtain ⟨hlen, ha⟩ := ha
  have at' : ∀ (i : Nat) (e : Ent), (as ++ List.replicate (N.length - as.length) Ent.any)[i]? = some e → as[i]? = some e ∨ e = .any := fun i e h => by
    by_cases hi : i < as.length
    · rw [List.getElem?_append_left hi] at h; exact .inl h
    · rw [List.getElem?_append_right (by omega), List.getElem?_replicate] at h
      split at h
      · cases h; exact .inr rfl
      · cases h
  have noown : ∀ (i : Nat), ¬ IsOwn (as ++ List.replicate (N.length - as.length) Ent.any)[i]? := fun i ho => by
    cases e : (as ++ List.replicate (N.length - as.length) Ent.any)[i]? with
    | none => rw [e] at ho; exact ho
    | some u =>
      rw [e] at ho
      rcases at' i u e with q | q
      · have hi : i < vs.length := by rw [hlen]; exact (List.getElem?_eq_some_iff.mp q).1
        have z := ha i vs[i] u (List.getElem?_eq_getElem hi) q
        cases u with
        | own _ _ => exact z
        | own2 _ => exact z
        | any => exact ho
        | val _ _ => exact ho
        | adr _ => exact ho
        | obj _ _ _ => exact z
      · subst q; exact ho
  refine ⟨o, ?_, fun i e h => ?_, fun i j a _ h _ _ => absurd h (noown i)⟩
  · unfold L2.start
    simp only [List.length_append, List.length_map, List.length_replicate]
    omega
  · rcases at' i e h with q | q
    · have hi : i < vs.length := by rw [hlen]; exact (List.getElem?_eq_some_iff.mp q).1
      have z := ha i vs[i] e (List.getElem?_eq_getElem hi) q
      have s := start_at (N := N) (List.getElem?_eq_getElem hi)
      cases e with
      | any => trivial
      | val R x => exact ⟨_, s, z⟩
      | own _ _ => exact z.elim
      | own2 _ => exact z.elim
      | adr a => exact s.trans (congrArg (fun v => some (some v)) z)
      | obj _ _ _ => exact z.elim
    · subst q; trivial
section
variable {P : Program} {w : World} {K : PySem.W.Frag} {mg : Str → Option Value} {base : Heap}
/-- THE RULE for a def: its body in every context that it may run in -/
theorem fn_mk {x qual : Str} {st : Stmt} {f : Addr} {fd : FuncData} {N ps : List Str} {k : Nat} {C : Ctr} (F : Fun K x qual st f fd) (S : FnScope N ps (defScope st)) (hl : ∀ M as res, C M as res → as.length = ps.length)
    (hbody : ∀ (cdv : Value) (A : Around) (outer : List Env) (s : Shared) (H : Hp) (E : XK), Room k (A.deeper (envOfC qual (defScope st) s.heap.objs.size f cdv)) → ∀ M as res, C M as res →
      SS (cxOf CX0 P w K mg base N qual (defScope st) f cdv A outer s H E).nox M (defBody st) (as ++ List.replicate (N.length - ps.length) Ent.any) { nx := fun _ => res (.val rNone ()), rt := res }) : FnOk P w K mg base CX0 (k + 1) f fd ps (spC C) := by
  have hN : ps.length ≤ N.length := by have := congrArg List.length S.pre; rw [List.length_take] at this; omega
  refine F.ok S (fun vs H Q E ⟨M, G, as, res, hc, _, ha, _⟩ => by rw [ha.1, hl M as res hc]) fun cdv A outer s H vs Q E hr ⟨M, G, as, res, hc, o, ha, hq⟩ => ⟨sOf _ _, pss_of, ?_⟩
  have hal := hl M as res hc
  have t := stt_start (N := N) o ha (by rw [hal]; exact hN)
  rw [hal] at t
  exact hbody cdv A outer s H E hr M as res hc G H G H _ _ t (Step.refl o) ⟨fun Γ σ G' H' n t' s' => hq rNone () .non G' H' n s' rfl, fun R x v G' H' p s' r => hq R x v G' H' p s' r, fun _ _ _ _ z => z.elim, fun _ _ _ _ z => z.elim⟩
end
/-- a def of the text as its callers know it -/
structure DefC (P0 : Program) (w0 : World) (K0 : PySem.W.Frag) (mg0 : Str → Option Value) (base0 : Heap) (x : Str) (k : Nat) (f : Addr) (fd : FuncData) (ps : List Str) (C : Ctr) : Prop where
  ok : FnOk P0 w0 K0 mg0 base0 CX0 k f fd ps (spC C)
  mg : mg0 x = some (.ref f)
  kp : PySem.W.keepIn K0 (.ref f) = true
  bd : Binds K0 fd ps []
abbrev Def (X : Cx) (x : Str) (k : Nat) (f : Addr) (fd : FuncData) (ps : List Str) (C : Ctr) : Prop := DefC X.prog X.w X.K X.mg X.base x k f fd ps C
section
variable {X : Cx} {M : Md} {Γ : List Ent} {x : Str} {k : Nat} {f : Addr} {fd : FuncData} {ps : List Str} {C : Ctr} {e : Expr} {es : List Expr} {p pos : Pos} {A : List Ent → Prop} {α : Type} {R : Rp α} {P : α → Prop}
theorem spC_use {G H : Hp} {vs : List V} {as : List Ent} {res : Ent → Prop} {Q : VK} {E : XK} (hc : C M as res) (o : Okk M G H) (ha : ArgsOk G vs as) (hres : ∀ u, res u → ∃ x, P x ∧ u = .val R x) (k : ∀ v x G' H', P x → Step M G H G' H' → R.rel G' v x → Q v H') : spC C (vs ++ []) H Q E := by
  rw [List.append_nil]
  refine ⟨M, G, as, res, hc, o, ha, fun R' x' v G' H' hr s r => ?_⟩
  obtain ⟨x, hp, e⟩ := hres _ hr
  cases e
  exact k v x G' H' hp s r
/-- a call -/
theorem ev_callP (D : Def X x k f fd ps C) (hr : Room k X.A) (ha : EAp X M (e :: es) Γ A) (hc : ∀ as, A as → ∃ res, C M as res ∧ ∀ u, res u → ∃ x, P x ∧ u = .val R x) (hg : Gl X x := by rfl)
    (hdb : (x == ("__debug__" : Str)) = false := by decide) (he : starEach (e :: es) X.env = (false, eval e X.env) :: starEach es X.env := by rfl) (hpl : (backTo pos (starEach es X.env)).any (·.1) = false := by rfl) :
    EVp X M (.Call (.Name x p) (e :: es) [] pos) Γ R P := fun H0 G H σ t Q k' =>
  of_pe (pe_call D.ok hr hg D.mg D.kp D.bd .nil pass0 pa_of hdb he hpl) (ha H0 G H σ t _ fun vs as G' H' hA s ar => by
    obtain ⟨res, h1, h2⟩ := hc as hA
    exact spC_use h1 (s.okk t.ok) ar h2 fun v x G1 H1 px s1 r => k' v x G1 H1 px (s.trans s1) r)
theorem ev_call {y : α} {as : List Ent} (D : Def X x k f fd ps C) (hr : Room k X.A) (ha : EA X M (e :: es) Γ as) (hc : C M as (fun u => u = .val R y)) (hg : Gl X x := by rfl)
    (hdb : (x == ("__debug__" : Str)) = false := by decide) (he : starEach (e :: es) X.env = (false, eval e X.env) :: starEach es X.env := by rfl) (hpl : (backTo pos (starEach es X.env)).any (·.1) = false := by rfl) :
    EV X M (.Call (.Name x p) (e :: es) [] pos) Γ R y := ev_callP D hr ha (fun as' h => ⟨_, by rw [h]; exact hc, fun u q => ⟨y, rfl, q⟩⟩) hg hdb he hpl
/-- the arguments -/
theorem argsOk_nil {G : Hp} : ArgsOk G [] [] := ⟨rfl, fun i v e h _ => by simp at h⟩
theorem argsOk_cons {G : Hp} {v : V} {vs : List V} {e : Ent} {as : List Ent} (h : ArgOk G v e) (t : ArgsOk G vs as) : ArgsOk G (v :: vs) (e :: as) := ⟨by simp [t.1], fun i w u h1 h2 => by
  cases i with
  | zero =>
    have e1 : v = w := by simpa using h1
    have e2 : e = u := by simpa using h2
    rw [← e1, ← e2]; exact h
  | succ n => exact t.2 n w u (by simpa using h1) (by simpa using h2)⟩
theorem ArgsOk.mono {G G' : Hp} {vs : List V} {as : List Ent} (s : Same G G') (h : ArgsOk G vs as) : ArgsOk G' vs as := ⟨h.1, fun i v e h1 h2 => (h.2 i v e h1 h2).mono s⟩
theorem ea_nil : EA X M [] Γ [] := fun H0 G H σ t Q k => of_pa pa_nil (k [] [] G H rfl (Step.refl t.ok) argsOk_nil)
theorem ea_consP {M1 N : Md} (h : EVt X M M1 e Γ R P) (hr : EAt X M1 N es Γ A) (hs : starEach (e :: es) X.env = (false, eval e X.env) :: starEach es X.env := by rfl) (hF : M.F = M1.F := by first | rfl | assumption) (hF2 : M1.F = N.F := by first | rfl | assumption) : EAt X M N (e :: es) Γ (fun as => ∃ x r, P x ∧ A r ∧ as = .val R x :: r) := fun H0 G H σ t Q k =>
  of_pa (pa_cons pe_of pa_of hs) (h H0 G H σ t _ fun v x G1 H1 px s1 r1 => hr H0 G1 H1 σ (t.step2 hF s1) _ fun vs as G2 H2 hA s2 r2 => k _ _ G2 H2 ⟨x, as, px, hA, rfl⟩ (s1.trans2 hF2 s2) (argsOk_cons (R.mono s2.g r1) r2))
theorem ea_cons {x : α} {as : List Ent} (h : EV X M e Γ R x) (hr : EA X M es Γ as) (hs : starEach (e :: es) X.env = (false, eval e X.env) :: starEach es X.env := by rfl) : EA X M (e :: es) Γ (.val R x :: as) := fun H0 G H σ t Q k =>
  ea_consP h hr hs rfl rfl H0 G H σ t Q fun vs as' G' H' ⟨x', r, e1, e2, e3⟩ s a => k vs as' G' H' (by rw [e3, e1, e2]) s a
/-- an address that is told -/
theorem ea_adr {N : Md} (i : Nat) {a : Addr} {nm : Str} {np : Pos} (h : Γ[i]? = some (.adr a)) (hr : EAt X M N es Γ A) (hN : X.N[i]? = some nm := by rfl) (hv : Vis X.env.scope nm := by first | exact Or.inl rfl | exact Or.inr (Or.inl rfl) | exact Or.inr (Or.inr rfl)) (hd : (nm == ("__debug__" : Str)) = false := by decide)
    (hcd : (nm == ("__classdict__" : Str)) = false := by decide) (hs : starEach (.Name nm np :: es) X.env = (false, eval (.Name nm np) X.env) :: starEach es X.env := by rfl) : EAt X M N (.Name nm np :: es) Γ (fun as => ∃ r, A r ∧ as = .adr a :: r) := fun H0 G H σ t Q k =>
  of_pa (pa_cons pe_of pa_of hs) (of_pe (pe_var hN hv hd hcd) ⟨_, t.ent i _ h, hr H0 G H σ t _ fun vs as G2 H2 hA s2 r2 => k _ _ G2 H2 ⟨as, hA, rfl⟩ s2 (argsOk_cons (e := .adr a) rfl r2)⟩)
theorem EAt.imp {N : Md} {A' : List Ent → Prop} (h : EAt X M N es Γ A) (hA : ∀ as, A as → A' as) : EAt X M N es Γ A' := fun H0 G H σ t Q k => h H0 G H σ t Q fun vs as G' H' a => k vs as G' H' (hA as a)
theorem args1 {G : Hp} {vs : List V} {x : α} (h : ArgsOk G vs [.val R x]) : ∃ v, vs = [v] ∧ R.rel G v x := by
  match vs, h with
  | [v], h => exact ⟨v, rfl, h.2 0 v _ rfl rfl⟩
  | [], h => exact nomatch h.1
  | _ :: _ :: _, h => exact absurd h.1 (by simp)
theorem args2 {β : Type} {S : Rp β} {G : Hp} {vs : List V} {x : α} {y : β} (h : ArgsOk G vs [.val R x, .val S y]) : ∃ v w, vs = [v, w] ∧ R.rel G v x ∧ S.rel G w y := by
  match vs, h with
  | [v, w], h => exact ⟨v, w, rfl, h.2 0 v _ rfl rfl, h.2 1 w _ rfl rfl⟩
  | [], h => exact nomatch h.1
  | [_], h => exact absurd h.1 (by simp)
  | _ :: _ :: _ :: _, h => exact absurd h.1 (by simp)
end
end RT

/-! RT2: expressions. -/
namespace RT
open PySem L2
section
variable {X : Cx} {M M1 N : Md} {Γ : List Ent} {e a b c : Expr} {α β γ δ : Type} {R : Rp α} {S : Rp β} {T : Rp γ} {x : α} {y : β} {z : γ} {P : α → Prop} {P2 : β → Prop} {P3 : γ → Prop} {pos : Pos}
theorem EVt.imp {P' : α → Prop} (h : EVt X M N e Γ R P) (hp : ∀ x, P x → P' x) : EVt X M N e Γ R P' := fun H0 G H σ t Q k => h H0 G H σ t Q fun v x G' H' px s r => k v x G' H' (hp x px) s r
theorem ev_is {x' : α} (h : EV X M e Γ R x) (q : x = x') : EV X M e Γ R x' := q ▸ h
theorem tv_is {b b' : Bool} (h : TV X M e Γ b) (q : b = b') : TV X M e Γ b' := q ▸ h
theorem Stt.here (t : Stt M H0 Γ σ G H) : Step M G H G H := Step.refl t.ok

/-! ### names and constants -/
theorem ev_var (i : Nat) {nm : Str} (h : Γ[i]? = some (.val R x) := by rfl) (hN : X.N[i]? = some nm := by rfl) (hv : Vis X.env.scope nm := by first | exact Or.inl rfl | exact Or.inr (Or.inl rfl) | exact Or.inr (Or.inr rfl)) (hd : (nm == ("__debug__" : Str)) = false := by decide)
    (hcd : (nm == ("__classdict__" : Str)) = false := by decide) : EV X M (.Name nm pos) Γ R x := fun H0 G H σ t Q k => by
  obtain ⟨v, h1, h2⟩ := t.val h
  exact of_pe (pe_var hN hv hd hcd) ⟨v, h1, k v x G H rfl (Step.refl t.ok) h2⟩
theorem ev_c {v : V} (p : PE X e (tC v)) (h : ∀ G, R.rel G v x) : EV X M e Γ R x := fun H0 G H σ t Q k => of_pe p (k v x G H rfl (Step.refl t.ok) (h G))
theorem ev_int {i : Int} {j : Nat} : EV X M (.Constant (.int i) j pos) Γ rInt i := ev_c pe_int fun _ => rfl
theorem ev_bool {i : Bool} {j : Nat} : EV X M (.Constant (.bool i) j pos) Γ rBool i := ev_c pe_bl fun _ => rfl
theorem ev_str {i : Str} {j : Nat} : EV X M (.Constant (.str i) j pos) Γ rStr i := ev_c pe_str fun _ => rfl
theorem ev_none {j : Nat} : EV X M (.Constant .none j pos) Γ rNone () := ev_c pe_non fun _ => rfl
theorem ev_gint {nm : Str} {i : Int} {tk : Tok} (hm : X.mg nm = some (.int i tk)) (hg : Gl X nm := by rfl) (hd : (nm == ("__debug__" : Str)) = false := by decide) : EV X M (.Name nm pos) Γ rInt i := ev_c (v := .int i) (pe_glob hg hm ⟨tk, rfl⟩ hd) fun _ => rfl
theorem ev_gstr {nm : Str} {i : Str} {tk : Tok} (hm : X.mg nm = some (.str i tk)) (hg : Gl X nm := by rfl) (hd : (nm == ("__debug__" : Str)) = false := by decide) : EV X M (.Name nm pos) Γ rStr i := ev_c (v := .str i) (pe_glob hg hm ⟨tk, rfl⟩ hd) fun _ => rfl

/-! ### operations upon values -/
def Op2 (M : Md) (r : R2) (R : Rp α) (S : Rp β) (T : Rp γ) (x : α) (y : β) (P3 : γ → Prop) : Prop :=
  ∀ G H v w, Okk M G H → R.rel G v x → S.rel G w y → ∀ Q : VK, (∀ u z G' H', P3 z → Step M G H G' H' → T.rel G' u z → Q u H') → r v w H Q
def Op1 (M : Md) (r : V → Hp → VK → Prop) (R : Rp α) (T : Rp γ) (x : α) (P3 : γ → Prop) : Prop :=
  ∀ G H v, Okk M G H → R.rel G v x → ∀ Q : VK, (∀ u z G' H', P3 z → Step M G H G' H' → T.rel G' u z → Q u H') → r v H Q
theorem ev_op2 {r : R2} (p : PE X e (tOp r (tOf X a) (tOf X b))) (ha : EVt X M M1 a Γ R P) (hb : EVt X M1 N b Γ S P2) (ho : ∀ x y, P x → P2 y → Op2 N r R S T x y P3) (hF : M.F = M1.F := by first | rfl | assumption) (hF2 : M1.F = N.F := by first | rfl | assumption) : EVt X M N e Γ T P3 := fun H0 G H σ t Q k =>
  of_pe p (ha H0 G H σ t _ fun v x G1 H1 px s1 r1 => hb H0 G1 H1 σ (t.step2 hF s1) _ fun w y G2 H2 py s2 r2 =>
    ho x y px py G2 H2 v w (s2.okk2 hF2 (s1.okk2 hF t.ok)) (R.mono s2.g r1) r2 Q fun u z G3 H3 pz s3 r3 => k u z G3 H3 pz ((s1.trans2 hF2 s2).trans s3) r3)
theorem ev_op1 {r : V → Hp → VK → Prop} (p : PE X e (tUn r (tOf X a))) (ha : EVt X M N a Γ R P) (ho : ∀ x, P x → Op1 N r R T x P3) (hF : M.F = N.F := by first | rfl | assumption) : EVt X M N e Γ T P3 := fun H0 G H σ t Q k =>
  of_pe p (ha H0 G H σ t _ fun v x G1 H1 px s1 r1 => ho x px G1 H1 v (s1.okk2 hF t.ok) r1 Q fun u z G3 H3 pz s3 r3 => k u z G3 H3 pz (s1.trans s3) r3)
theorem o2_I0 {g : Int → Int → V} {h : Int → Int → γ} (hr : ∀ G i j, T.rel G (g i j) (h i j)) {i j : Int} : Op2 M (rI0 g) rInt rInt T i j (fun z => z = h i j) := fun G H v w o r1 r2 Q k => ⟨i, j, r1, r2, k _ _ G H rfl (Step.refl o) (hr G i j)⟩
theorem o2_I {C : Int → Int → Prop} {g : Int → Int → V} {h : Int → Int → γ} (hr : ∀ G i j, T.rel G (g i j) (h i j)) {i j : Int} (hc : C i j) : Op2 M (rI C g) rInt rInt T i j (fun z => z = h i j) := fun G H v w o r1 r2 Q k => ⟨i, j, r1, r2, hc, k _ _ G H rfl (Step.refl o) (hr G i j)⟩
variable {i j : Int} {Pi Pj : Int → Prop}
theorem ev_add (ha : EV X M a Γ rInt i) (hb : EV X M b Γ rInt j) : EV X M (.BinOp a .Add b pos) Γ rInt (i + j) := ev_op2 (pe_op op_add pe_of pe_of) ha hb fun _ _ h1 h2 => by subst h1; subst h2; exact o2_I0 (h := fun i j => i + j) fun _ _ _ => rfl
theorem ev_sub (ha : EV X M a Γ rInt i) (hb : EV X M b Γ rInt j) : EV X M (.BinOp a .Sub b pos) Γ rInt (i - j) := ev_op2 (pe_op op_sub pe_of pe_of) ha hb fun _ _ h1 h2 => by subst h1; subst h2; exact o2_I0 (h := fun i j => i - j) fun _ _ _ => rfl
theorem ev_mul (ha : EV X M a Γ rInt i) (hb : EV X M b Γ rInt j) (hc : CMul i j) : EV X M (.BinOp a .Mult b pos) Γ rInt (i * j) := ev_op2 (pe_op op_mul pe_of pe_of) ha hb fun _ _ h1 h2 => by subst h1; subst h2; exact o2_I (h := fun i j => i * j) (fun _ _ _ => rfl) hc
theorem ev_div (ha : EV X M a Γ rInt i) (hb : EV X M b Γ rInt j) (hc : 0 < j ∧ j < 1073741824) : EV X M (.BinOp a .FloorDiv b pos) Γ rInt (i / j) := ev_op2 (pe_op op_fdiv pe_of pe_of) ha hb fun _ _ h1 h2 => by subst h1; subst h2; exact o2_I (C := CDiv) (h := fun i j => i / j) (fun _ _ _ => rfl) hc
theorem ev_mod (ha : EV X M a Γ rInt i) (hb : EV X M b Γ rInt j) (hc : 0 < j) : EV X M (.BinOp a .Mod b pos) Γ rInt (i % j) := ev_op2 (pe_op op_mod pe_of pe_of) ha hb fun _ _ h1 h2 => by subst h1; subst h2; exact o2_I (C := fun _ j => 0 < j) (h := fun i j => i % j) (fun _ _ _ => rfl) hc
theorem ev_pow (ha : EV X M a Γ rInt i) (hb : EV X M b Γ rInt j) (hc : CPow i j) : EV X M (.BinOp a .Pow b pos) Γ rInt (i ^ j.toNat) := ev_op2 (pe_op op_pow pe_of pe_of) ha hb fun _ _ h1 h2 => by subst h1; subst h2; exact o2_I (h := fun i j => i ^ j.toNat) (fun _ _ _ => rfl) hc
theorem ev_neg (ha : EV X M a Γ rInt i) : EV X M (.UnaryOp .USub a pos) Γ rInt (-i) := ev_op1 (pe_un un_neg pe_of) ha fun _ h => by subst h; exact fun G H v o r Q k => ⟨_, r, k _ _ G H rfl (Step.refl o) rfl⟩
theorem ev_addP {Pk : Int → Prop} (ha : EVt X M M1 a Γ rInt Pi) (hb : EVt X M1 N b Γ rInt Pj) (hq : ∀ i j, Pi i → Pj j → Pk (i + j)) (hF : M.F = M1.F := by first | rfl | assumption) (hF2 : M1.F = N.F := by first | rfl | assumption) : EVt X M N (.BinOp a .Add b pos) Γ rInt Pk := ev_op2 (pe_op op_add pe_of pe_of) ha hb (fun i j h1 h2 G H v w o r1 r2 Q k => ⟨i, j, r1, r2, k _ _ G H (hq i j h1 h2) (Step.refl o) rfl⟩) hF hF2
theorem ev_subP {Pk : Int → Prop} (ha : EVt X M M1 a Γ rInt Pi) (hb : EVt X M1 N b Γ rInt Pj) (hq : ∀ i j, Pi i → Pj j → Pk (i - j)) (hF : M.F = M1.F := by first | rfl | assumption) (hF2 : M1.F = N.F := by first | rfl | assumption) : EVt X M N (.BinOp a .Sub b pos) Γ rInt Pk := ev_op2 (pe_op op_sub pe_of pe_of) ha hb (fun i j h1 h2 G H v w o r1 r2 Q k => ⟨i, j, r1, r2, k _ _ G H (hq i j h1 h2) (Step.refl o) rfl⟩) hF hF2
theorem ev_mulP {Pk : Int → Prop} (ha : EVt X M M1 a Γ rInt Pi) (hb : EVt X M1 N b Γ rInt Pj) (hc : ∀ i j, Pi i → Pj j → CMul i j) (hq : ∀ i j, Pi i → Pj j → Pk (i * j)) (hF : M.F = M1.F := by first | rfl | assumption) (hF2 : M1.F = N.F := by first | rfl | assumption) : EVt X M N (.BinOp a .Mult b pos) Γ rInt Pk := ev_op2 (pe_op op_mul pe_of pe_of) ha hb (fun i j h1 h2 G H v w o r1 r2 Q k => ⟨i, j, r1, r2, hc i j h1 h2, k _ _ G H (hq i j h1 h2) (Step.refl o) rfl⟩) hF hF2
theorem ev_divP {Pk : Int → Prop} (ha : EVt X M M1 a Γ rInt Pi) (hb : EVt X M1 N b Γ rInt Pj) (hc : ∀ i j, Pi i → Pj j → CDiv i j) (hq : ∀ i j, Pi i → Pj j → Pk (i / j)) (hF : M.F = M1.F := by first | rfl | assumption) (hF2 : M1.F = N.F := by first | rfl | assumption) : EVt X M N (.BinOp a .FloorDiv b pos) Γ rInt Pk := ev_op2 (pe_op op_fdiv pe_of pe_of) ha hb (fun i j h1 h2 G H v w o r1 r2 Q k => ⟨i, j, r1, r2, hc i j h1 h2, k _ _ G H (hq i j h1 h2) (Step.refl o) rfl⟩) hF hF2
theorem ev_modP {Pk : Int → Prop} (ha : EVt X M M1 a Γ rInt Pi) (hb : EVt X M1 N b Γ rInt Pj) (hc : ∀ i j, Pi i → Pj j → 0 < j) (hq : ∀ i j, Pi i → Pj j → Pk (i % j)) (hF : M.F = M1.F := by first | rfl | assumption) (hF2 : M1.F = N.F := by first | rfl | assumption) : EVt X M N (.BinOp a .Mod b pos) Γ rInt Pk := ev_op2 (pe_op op_mod pe_of pe_of) ha hb (fun i j h1 h2 G H v w o r1 r2 Q k => ⟨i, j, r1, r2, hc i j h1 h2, k _ _ G H (hq i j h1 h2) (Step.refl o) rfl⟩) hF hF2
theorem ev_powP {Pk : Int → Prop} (ha : EVt X M M1 a Γ rInt Pi) (hb : EVt X M1 N b Γ rInt Pj) (hc : ∀ i j, Pi i → Pj j → CPow i j) (hq : ∀ i j, Pi i → Pj j → Pk (i ^ j.toNat)) (hF : M.F = M1.F := by first | rfl | assumption) (hF2 : M1.F = N.F := by first | rfl | assumption) : EVt X M N (.BinOp a .Pow b pos) Γ rInt Pk := ev_op2 (pe_op op_pow pe_of pe_of) ha hb (fun i j h1 h2 G H v w o r1 r2 Q k => ⟨i, j, r1, r2, hc i j h1 h2, k _ _ G H (hq i j h1 h2) (Step.refl o) rfl⟩) hF hF2

/-! ### comparisons -/
theorem ev_lt (ha : EV X M a Γ rInt i) (hb : EV X M b Γ rInt j) (hm : behindInMarks .Lt b = false := by exact nomark _) : EV X M (.Compare a [.Lt] [b] pos) Γ rBool (decide (i < j)) := ev_op2 (pe_cmpR op_lt pe_of pe_of hm) ha hb fun _ _ h1 h2 => by subst h1; subst h2; exact o2_I0 (h := fun i j => decide (i < j)) fun _ _ _ => rfl
theorem ev_le (ha : EV X M a Γ rInt i) (hb : EV X M b Γ rInt j) (hm : behindInMarks .LtE b = false := by exact nomark _) : EV X M (.Compare a [.LtE] [b] pos) Γ rBool (decide (i ≤ j)) := ev_op2 (pe_cmpR op_le pe_of pe_of hm) ha hb fun _ _ h1 h2 => by subst h1; subst h2; exact o2_I0 (h := fun i j => decide (i ≤ j)) fun _ _ _ => rfl
theorem ev_gt (ha : EV X M a Γ rInt i) (hb : EV X M b Γ rInt j) (hm : behindInMarks .Gt b = false := by exact nomark _) : EV X M (.Compare a [.Gt] [b] pos) Γ rBool (decide (j < i)) := ev_op2 (pe_cmpR op_gt pe_of pe_of hm) ha hb fun _ _ h1 h2 => by subst h1; subst h2; exact o2_I0 (h := fun i j => decide (j < i)) fun _ _ _ => rfl
theorem ev_ge (ha : EV X M a Γ rInt i) (hb : EV X M b Γ rInt j) (hm : behindInMarks .GtE b = false := by exact nomark _) : EV X M (.Compare a [.GtE] [b] pos) Γ rBool (decide (j ≤ i)) := ev_op2 (pe_cmpR op_ge pe_of pe_of hm) ha hb fun _ _ h1 h2 => by subst h1; subst h2; exact o2_I0 (h := fun i j => decide (j ≤ i)) fun _ _ _ => rfl
theorem ev_eqI (ha : EV X M a Γ rInt i) (hb : EV X M b Γ rInt j) (hm : behindInMarks .Eq b = false := by exact nomark _) : EV X M (.Compare a [.Eq] [b] pos) Γ rBool (decide (i = j)) := ev_op2 (pe_cmpR op_eq pe_of pe_of hm) ha hb fun _ _ h1 h2 => by
  subst h1; subst h2
  rintro G H v w o rfl rfl Q k
  refine ⟨rfl, k _ _ G H rfl (Step.refl o) ?_⟩
  show V.bl _ = V.bl _
  rw [dec_int, Bool.beq_eq_decide_eq]
theorem ev_neI (ha : EV X M a Γ rInt i) (hb : EV X M b Γ rInt j) (hm : behindInMarks .NotEq b = false := by exact nomark _) : EV X M (.Compare a [.NotEq] [b] pos) Γ rBool (!decide (i = j)) := ev_op2 (pe_cmpR op_ne pe_of pe_of hm) ha hb fun _ _ h1 h2 => by
  subst h1; subst h2
  rintro G H v w o rfl rfl Q k
  refine ⟨rfl, k _ _ G H rfl (Step.refl o) ?_⟩
  show V.bl _ = V.bl _
  rw [dec_int, Bool.beq_eq_decide_eq]
theorem ev_eqS {s u : Str} (ha : EV X M a Γ rStr s) (hb : EV X M b Γ rStr u) (hm : behindInMarks .Eq b = false := by exact nomark _) : EV X M (.Compare a [.Eq] [b] pos) Γ rBool (s == u) := ev_op2 (pe_cmpR op_eq pe_of pe_of hm) ha hb fun _ _ h1 h2 => by
  subst h1; subst h2
  rintro G H v w o rfl rfl Q k
  refine ⟨rfl, k _ _ G H rfl (Step.refl o) ?_⟩
  show V.bl _ = V.bl _
  rw [dec_str]
/-- a <= b <= c of whole numbers, and its like: r, r' by the operators' rules -/
theorem ev_chain {op op' : CmpOp} {f f' : Int → Int → Bool} {k : Int} (ho : OpR X (compareOp op) (rI0 fun i j => .bl (f i j))) (ho' : OpR X (compareOp op') (rI0 fun i j => .bl (f' i j))) (ha : EV X M a Γ rInt i) (hb : EV X M b Γ rInt j) (hc : f i j = true → EV X M c Γ rInt k)
    (hm1 : lastMarks [op, op'] [b, c] = false := by rfl) : EV X M (.Compare a [op, op'] [b, c] pos) Γ rBool (f i j && f' j k) := fun H0 G H σ t Q q =>
  of_pe (pe_chain ho ho' pe_of pe_of pe_of hm1) (ha H0 G H σ t _ fun v x G1 H1 e1 s1 r1 => hb H0 G1 H1 σ (t.step s1) _ fun w y G2 H2 e2 s2 r2 => ⟨i, j, e1 ▸ r1, e2 ▸ r2, f i j, rfl, by
    cases hf : f i j with
    | true =>
      rw [if_pos rfl]
      refine hc hf H0 G2 H2 σ ((t.step s1).step s2) _ fun u z G3 H3 e3 s3 r3 => ⟨j, k, e2 ▸ r2, e3 ▸ r3, ?_⟩
      exact q (.bl (f' j k)) (f' j k) G3 H3 (by rw [hf]; rfl) ((s1.trans s2).trans s3) rfl
    | false =>
      rw [if_neg Bool.false_ne_true]
      exact q (.bl false) false G2 H2 (by rw [hf]; rfl) (s1.trans s2) rfl⟩)

/-! ### tests -/
theorem tv_val {P : Bool → Prop} (h : EVp X M e Γ rBool P) (he : ∀ whole, isTrue e X.env whole = (do let v ← whole; standAt e.pos; holding [v] (truthy v)) := by intro _; rfl) : TVp X M e Γ P := fun H0 G H σ t Q k =>
  of_pt (pt_val pe_of he) (h H0 G H σ t _ fun v x G' H' px s r => ⟨x, r, k x G' H' px s⟩)
theorem isTrue_cmp {l r : Expr} {op : CmpOp} {pos : Pos} {env : Env} {whole : Sem Value} : PySem.isTrue (.Compare l [op] [r] pos) env whole = (eval (.Compare l [op] [r] pos) env >>= fun c => holding [c] (truthy c)) := by
  rw [PySem.isTrue_Compare1, PySem.eval_Compare1]
  simp only [bind_assoc]
/-- a test that is one comparison -/
theorem tv_cmp {P : Bool → Prop} {op : CmpOp} {l r : Expr} (h : EVt X M N (.Compare l [op] [r] pos) Γ rBool P) : ∀ (H0 G H : Hp) (σ : St), Stt M H0 Γ σ G H → ∀ Q : Bool → Hp → Prop, (∀ b G' H', P b → Step N G H G' H' → Q b H') → ttOf X (.Compare l [op] [r] pos) σ H Q := fun H0 G H σ t Q k => by
  refine ⟨fun pins s I => ?_⟩
  rw [isTrue_cmp]
  refine PySem.wpAny_bind (thn ((h H0 G H σ t (fun v H' => ∃ b, v = .bl b ∧ Q b H') (fun v x G' H' px s' r => ⟨x, r, k x G' H' px s'⟩)).run pins s I) fun u s1 ⟨v, H1, I1, r1, b, e, q⟩ => ?_)
  subst e
  cases r1
  exact PySem.wpAny_holding (PySem.wpAny_truthy_bool ⟨H1, I1, q⟩)
theorem tv_cmp1 {P : Bool → Prop} {op : CmpOp} {l r : Expr} (h : EVp X M (.Compare l [op] [r] pos) Γ rBool P) : TVp X M (.Compare l [op] [r] pos) Γ P := tv_cmp h
/-- .. of two comparisons -/
theorem tv_chain {op op' : CmpOp} {f f' : Int → Int → Bool} {i j k : Int} (ho : OpR X (compareOp op) (rI0 fun i j => .bl (f i j))) (ho' : OpR X (compareOp op') (rI0 fun i j => .bl (f' i j))) (ha : EV X M a Γ rInt i) (hb : EV X M b Γ rInt j) (hc : f i j = true → EV X M c Γ rInt k)
    (hm1 : lastMarks [op, op'] [b, c] = false := by rfl) : TV X M (.Compare a [op, op'] [b, c] pos) Γ (f i j && f' j k) := fun H0 G H σ t Q q =>
  of_pt (pt_chain ho ho' pe_of pe_of pe_of hm1) (ha H0 G H σ t _ fun v x G1 H1 e1 s1 r1 => hb H0 G1 H1 σ (t.step s1) _ fun w y G2 H2 e2 s2 r2 => ⟨i, j, e1 ▸ r1, e2 ▸ r2, f i j, rfl, by
    cases hf : f i j with
    | true =>
      rw [if_pos rfl]
      exact hc hf H0 G2 H2 σ ((t.step s1).step s2) _ fun u z G3 H3 e3 s3 r3 => ⟨j, k, e2 ▸ r2, e3 ▸ r3, _, rfl, q _ G3 H3 (by rw [hf]; rfl) ((s1.trans s2).trans s3)⟩
    | false =>
      rw [if_neg Bool.false_ne_true]
      exact ⟨false, rfl, q _ G2 H2 (by rw [hf]; rfl) (s1.trans s2)⟩⟩)
theorem tw_val {P : Bool → Prop} (h : TWp X M e Γ P) : TVp X M e Γ P := fun H0 G H σ t Q k => of_pt (PW.pt pw_of) (h H0 G H σ t Q k)
variable {t1 t2 : Bool} {rest : List Expr}
theorem tv_not (h : TV X M a Γ t1) : TV X M (.UnaryOp .Not a pos) Γ (!t1) := fun H0 G H σ t Q k => of_pt (pt_not pt_of) (h H0 G H σ t _ fun b G' H' e s => k _ G' H' (by rw [e]) s)
theorem tw_and1 (h : TV X M a Γ t1) : TW X M (.BoolOp .And [a] pos) Γ t1 := fun H0 G H σ t Q k => of_pw (pw_and1 pt_of) (h H0 G H σ t Q k)
theorem tw_or1 (h : TV X M a Γ t1) : TW X M (.BoolOp .Or [a] pos) Γ t1 := fun H0 G H σ t Q k => of_pw (pw_or1 pt_of) (h H0 G H σ t Q k)
theorem tw_and (h : TV X M a Γ t1) (h2 : t1 = true → TW X M (.BoolOp .And (b :: rest) pos) Γ t2) : TW X M (.BoolOp .And (a :: b :: rest) pos) Γ (t1 && t2) := fun H0 G H σ t Q k => of_pw (pw_and pt_of pw_of) (h H0 G H σ t _ fun c G' H' e s => by
  subst e
  cases c with
  | true => rw [if_pos rfl]; exact h2 rfl H0 G' H' σ (t.step s) Q fun d G2 H2 e2 s2 => k d G2 H2 (by rw [e2]; rfl) (s.trans s2)
  | false => rw [if_neg Bool.false_ne_true]; exact k false G' H' rfl s)
theorem tw_or (h : TV X M a Γ t1) (h2 : t1 = false → TW X M (.BoolOp .Or (b :: rest) pos) Γ t2) : TW X M (.BoolOp .Or (a :: b :: rest) pos) Γ (t1 || t2) := fun H0 G H σ t Q k => of_pw (pw_or pt_of pw_of) (h H0 G H σ t _ fun c G' H' e s => by
  subst e
  cases c with
  | true => rw [if_pos rfl]; exact k true G' H' rfl s
  | false => rw [if_neg Bool.false_ne_true]; exact h2 rfl H0 G' H' σ (t.step s) Q fun d G2 H2 e2 s2 => k d G2 H2 (by rw [e2]; rfl) (s.trans s2))
/-- .. as values -/
theorem ev_not (h : EV X M a Γ rBool t1) : EV X M (.UnaryOp .Not a pos) Γ rBool (!t1) := fun H0 G H σ t Q k => of_pe (pe_not pe_of) (h H0 G H σ t _ fun v x G' H' e s r => ⟨x, r, k _ _ G' H' (by rw [e]) s rfl⟩)
theorem ev_and1 (h : EV X M a Γ rBool t1) {op} : EV X M (.BoolOp op [a] pos) Γ rBool t1 := fun H0 G H σ t Q k => of_pe (pe_one pe_of) (h H0 G H σ t Q k)
theorem ev_and (h : EV X M a Γ rBool t1) (h2 : t1 = true → EV X M (.BoolOp .And (b :: rest) pos) Γ rBool t2) : EV X M (.BoolOp .And (a :: b :: rest) pos) Γ rBool (t1 && t2) := fun H0 G H σ t Q k => of_pe (pe_and pe_of pe_of) (h H0 G H σ t _ fun v x G' H' e s r => ⟨x, r, by
  subst e
  cases x with
  | true => rw [if_pos rfl]; exact h2 rfl H0 G' H' σ (t.step s) Q fun u d G2 H2 e2 s2 r2 => k u d G2 H2 (by rw [e2]; rfl) (s.trans s2) r2
  | false => rw [if_neg Bool.false_ne_true]; exact k (.bl false) false G' H' rfl s rfl⟩)
theorem ev_or (h : EV X M a Γ rBool t1) (h2 : t1 = false → EV X M (.BoolOp .Or (b :: rest) pos) Γ rBool t2) : EV X M (.BoolOp .Or (a :: b :: rest) pos) Γ rBool (t1 || t2) := fun H0 G H σ t Q k => of_pe (pe_or pe_of pe_of) (h H0 G H σ t _ fun v x G' H' e s r => ⟨x, r, by
  subst e
  cases x with
  | true => rw [if_pos rfl]; exact k (.bl true) true G' H' rfl s rfl
  | false => rw [if_neg Bool.false_ne_true]; exact h2 rfl H0 G' H' σ (t.step s) Q fun u d G2 H2 e2 s2 r2 => k u d G2 H2 (by rw [e2]; rfl) (s.trans s2) r2⟩)
theorem ev_if (hc : TV X M c Γ t1) (ha : t1 = true → EV X M a Γ R x) (hb : t1 = false → EV X M b Γ R x) : EV X M (.IfExp c a b pos) Γ R x := fun H0 G H σ t Q k => of_pe (pe_ifExp pt_of pe_of pe_of) (hc H0 G H σ t _ fun d G' H' e s => by
  subst e
  cases d with
  | true => rw [if_pos rfl]; exact ha rfl H0 G' H' σ (t.step s) Q fun u d G2 H2 e2 s2 r2 => k u d G2 H2 e2 (s.trans s2) r2
  | false => rw [if_neg Bool.false_ne_true]; exact hb rfl H0 G' H' σ (t.step s) Q fun u d G2 H2 e2 s2 r2 => k u d G2 H2 e2 (s.trans s2) r2)
/-- b ? x : y -/
theorem ev_ife {y : α} (hc : TV X M c Γ t1) (ha : t1 = true → EV X M a Γ R x) (hb : t1 = false → EV X M b Γ R y) : EV X M (.IfExp c a b pos) Γ R (if t1 = true then x else y) := ev_if hc (fun h => by rw [if_pos h]; exact ha h) (fun h => by rw [if_neg (by rw [h]; decide)]; exact hb h)

/-! ### displays -/
variable {es : List Expr} {as : List Ent} {xs : List α}
/-- written items of one kind -/
theorem ea_same : EA X M [] Γ ([].map fun x : α => Ent.val R x) := ea_nil
theorem argsAll {G : Hp} : ∀ {vs : List V} {xs : List α}, ArgsOk G vs (xs.map fun x => Ent.val R x) → Paired (R.rel G) vs xs
  | [], [], _ => .nil
  | [], _ :: _, h => absurd h.1 (by simp)
  | _ :: _, [], h => absurd h.1 (by simp)
  | v :: vs, x :: xs, h => .cons (h.2 0 v (.val R x) rfl (by simp)) (argsAll ⟨by have := h.1; simpa using this, fun i w u h1 h2 => h.2 (i + 1) w u (by simpa using h1) (by simpa using h2)⟩)
theorem paired_len {F : α → β → Prop} {l : List α} {m : List β} (h : Paired F l m) : l.length = m.length := Paired.length h
theorem ef_lst (ha : EA X M es Γ (xs.map fun x => Ent.val R x)) (hz : xs.length ≤ 16777216 := by decide) : EF X M (.List es pos) Γ R xs := fun H0 G H σ t Q k =>
  of_pe (pe_lst pa_of) (ha H0 G H σ t _ fun vs as G' H' e s ar => by
    subst e
    have r := argsAll ar
    have hl : vs.length ≤ sizeLine := by rw [paired_len r, sizeLine_eq]; exact hz
    exact ⟨hl, fun p hp => k p vs xs G' _ rfl (s.trans (Step.own (s.okk t.ok) hp hl)) (s.fresh hp) ((s.okk t.ok).gnone hp) upd_same r⟩)
theorem ev_tup (ha : EA X M es Γ (xs.map fun x => Ent.val R x)) (hz : xs.length ≤ 16777216 := by decide) : EV X M (.Tuple es c1 pos) Γ (rTup R) xs := fun H0 G H σ t Q k =>
  of_pe (pe_tup pa_of) (ha H0 G H σ t _ fun vs as G' H' e s ar => by
    subst e
    have r := argsAll ar
    have hl : vs.length ≤ sizeLine := by rw [paired_len r, sizeLine_eq]; exact hz
    exact ⟨hl, fun p hp => k _ xs _ _ rfl (s.trans (Step.new (s.okk t.ok) hp hl)) ⟨p, vs, rfl, .inl upd_same, R.pmono (same_upd ((s.okk t.ok).gnone hp)) r⟩⟩)
theorem ev_pairP {c1 : Nat} {P2 : β → Prop} (ha : EVt X M M1 a Γ R P) (hb : EVt X M1 N b Γ S P2) (hs : starEach [a, b] X.env = (false, eval a X.env) :: starEach [b] X.env := by rfl) (hs2 : starEach [b] X.env = (false, eval b X.env) :: starEach [] X.env := by rfl) (hF : M.F = M1.F := by first | rfl | assumption) (hF2 : M1.F = N.F := by first | rfl | assumption) : EVt X M N (.Tuple [a, b] c1 pos) Γ (rPair R S) (fun p => P p.1 ∧ P2 p.2) := fun H0 G H σ t Q k =>
  of_pe (pe_tup pa_of) (of_pa (pa_cons pe_of (pa_cons pe_of pa_nil hs2) hs) (ha H0 G H σ t _ fun v x G1 H1 px s1 r1 => hb H0 G1 H1 σ (t.step2 hF s1) _ fun w y G2 H2 py s2 r2 => by
    have o2 := s2.okk2 hF2 (s1.okk2 hF t.ok)
    refine ⟨by show 2 ≤ sizeLine; decide, fun p hp => k _ (x, y) _ _ ⟨px, py⟩ ((s1.trans2 hF2 s2).trans (Step.new o2 hp (by show 2 ≤ sizeLine; decide))) ⟨p, v, w, rfl, .inl upd_same, R.mono (s2.g.trans (same_upd (o2.gnone hp))) r1, S.mono (same_upd (o2.gnone hp)) r2⟩⟩))
theorem ev_pair (ha : EA X M es Γ [.val R x, .val S y]) : EV X M (.Tuple es c1 pos) Γ (rPair R S) (x, y) := fun H0 G H σ t Q k =>
  of_pe (pe_tup pa_of) (ha H0 G H σ t _ fun vs as G' H' e s ar => by
    subst e
    obtain ⟨v, w, rfl, r1, r2⟩ := args2 ar
    have hl : [v, w].length ≤ sizeLine := by rw [sizeLine_eq]; show 2 ≤ 16777216; decide
    exact ⟨hl, fun p hp => k _ (x, y) _ _ rfl (s.trans (Step.new (s.okk t.ok) hp hl)) ⟨p, v, w, rfl, .inl upd_same, R.mono (same_upd ((s.okk t.ok).gnone hp)) r1, S.mono (same_upd ((s.okk t.ok).gnone hp)) r2⟩⟩)
end
end RT

/-! RT3: built-in calls, subscripts, attributes. -/
namespace RT
open PySem L2
section
variable {X : Cx} {M M1 N : Md} {Γ : List Ent} {e a b c : Expr} {α β γ δ : Type} {R : Rp α} {S : Rp β} {T : Rp γ} {x : α} {y : β} {z : γ} {P : α → Prop} {P2 : β → Prop} {P3 : γ → Prop} {pos p : Pos} {es : List Expr} {as : List Ent} {A : List Ent → Prop} {nm : Str} {xs : List α}

/-! ### built-in functions by what they do to values -/
def CallS (M : Md) (r : List V → Hp → VK → Prop) (as : List Ent) (T : Rp γ) (P3 : γ → Prop) : Prop :=
  ∀ G H vs, Okk M G H → ArgsOk G vs as → ∀ Q : VK, (∀ u z G' H', P3 z → Step M G H G' H' → T.rel G' u z → Q u H') → r vs H Q
def CallF (M : Md) (r : List V → Hp → VK → Prop) (as : List Ent) (T : Rp γ) (P3 : List γ → Prop) : Prop :=
  ∀ G H vs, Okk M G H → ArgsOk G vs as → ∀ Q : VK, (∀ q us zs G' H', P3 zs → Step M G H G' H' → H q = none → G' q = none → H' q = some (.lst us) → Paired (T.rel G') us zs → Q (.ref q) H') → r vs H Q
theorem ev_B {id : String} {r : List V → Hp → VK → Prop} (hc : CallR X (.builtin id) r) (hm : X.mg nm = none) (hv : bootBuiltins nm = some (.builtin id)) (ha : EAt X M N (e :: es) Γ A) (hs : ∀ as, A as → CallS N r as T P3) (hg : Gl X nm := by rfl) (hn : nm ≠ "__name__" := by decide) (hdb : (nm == ("__debug__" : Str)) = false := by decide)
    (he : starEach (e :: es) X.env = (false, eval e X.env) :: starEach es X.env := by rfl) (hpl : (backTo pos (starEach es X.env)).any (·.1) = false := by rfl) (hF : M.F = N.F := by first | rfl | assumption) : EVt X M N (.Call (.Name nm p) (e :: es) [] pos) Γ T P3 := fun H0 G H σ t Q k =>
  of_pe (pe_callB hc hg hm hv pa_of hn hdb he hpl) (ha H0 G H σ t _ fun vs as G' H' hA s ar => hs as hA G' H' vs (s.okk2 hF t.ok) ar Q fun u z G2 H2 hz s2 r2 => k u z G2 H2 hz (s.trans s2) r2)
theorem ev_Ty {id : String} {r : List V → Hp → VK → Prop} (hc : CallR X (.type id) r) (hm : X.mg nm = none) (hv : bootBuiltins nm = some (.type id)) (ha : EAt X M N (e :: es) Γ A) (hs : ∀ as, A as → CallS N r as T P3) (hg : Gl X nm := by rfl) (hn : nm ≠ "__name__" := by decide) (hdb : (nm == ("__debug__" : Str)) = false := by decide)
    (he : starEach (e :: es) X.env = (false, eval e X.env) :: starEach es X.env := by rfl) (hpl : (backTo pos (starEach es X.env)).any (·.1) = false := by rfl) (hF : M.F = N.F := by first | rfl | assumption) : EVt X M N (.Call (.Name nm p) (e :: es) [] pos) Γ T P3 := fun H0 G H σ t Q k =>
  of_pe (pe_callTy hc hg hm hv pa_of hn hdb he hpl) (ha H0 G H σ t _ fun vs as G' H' hA s ar => hs as hA G' H' vs (s.okk2 hF t.ok) ar Q fun u z G2 H2 hz s2 r2 => k u z G2 H2 hz (s.trans s2) r2)
theorem ef_B {id : String} {r : List V → Hp → VK → Prop} {P3 : List γ → Prop} (hc : CallR X (.builtin id) r) (hm : X.mg nm = none) (hv : bootBuiltins nm = some (.builtin id)) (ha : EAt X M N (e :: es) Γ A) (hs : ∀ as, A as → CallF N r as T P3) (hg : Gl X nm := by rfl) (hn : nm ≠ "__name__" := by decide) (hdb : (nm == ("__debug__" : Str)) = false := by decide)
    (he : starEach (e :: es) X.env = (false, eval e X.env) :: starEach es X.env := by rfl) (hpl : (backTo pos (starEach es X.env)).any (·.1) = false := by rfl) (hF : M.F = N.F := by first | rfl | assumption) : EFt X M N (.Call (.Name nm p) (e :: es) [] pos) Γ T P3 := fun H0 G H σ t Q k =>
  of_pe (pe_callB hc hg hm hv pa_of hn hdb he hpl) (ha H0 G H σ t _ fun vs as G' H' hA s ar => hs as hA G' H' vs (s.okk2 hF t.ok) ar Q fun q us zs G2 H2 hz s2 hq hg hh r2 => k q us zs G2 H2 hz (s.trans s2) (s.fresh hq) hg hh r2)
theorem ef_Ty {id : String} {r : List V → Hp → VK → Prop} {P3 : List γ → Prop} (hc : CallR X (.type id) r) (hm : X.mg nm = none) (hv : bootBuiltins nm = some (.type id)) (ha : EAt X M N (e :: es) Γ A) (hs : ∀ as, A as → CallF N r as T P3) (hg : Gl X nm := by rfl) (hn : nm ≠ "__name__" := by decide) (hdb : (nm == ("__debug__" : Str)) = false := by decide)
    (he : starEach (e :: es) X.env = (false, eval e X.env) :: starEach es X.env := by rfl) (hpl : (backTo pos (starEach es X.env)).any (·.1) = false := by rfl) (hF : M.F = N.F := by first | rfl | assumption) : EFt X M N (.Call (.Name nm p) (e :: es) [] pos) Γ T P3 := fun H0 G H σ t Q k =>
  of_pe (pe_callTy hc hg hm hv pa_of hn hdb he hpl) (ha H0 G H σ t _ fun vs as G' H' hA s ar => hs as hA G' H' vs (s.okk2 hF t.ok) ar Q fun q us zs G2 H2 hz s2 hq hg hh r2 => k q us zs G2 H2 hz (s.trans s2) (s.fresh hq) hg hh r2)
/-- of one argument that is known -/
theorem a1 {B : Prop} {as' : List Ent} (h : as' = as) (hb : B) : B := hb

theorem paired_ints {G : Hp} : ∀ {vs : List V} {ns : List Int}, Paired (rInt.rel G) vs ns → vs = ns.map V.int
  | _, _, .nil => rfl
  | _, _, .cons h t => by rw [show _ = V.int _ from h, paired_ints t]; rfl
theorem paired_bls {G : Hp} : ∀ {vs : List V} {ns : List Bool}, Paired (rBool.rel G) vs ns → vs = ns.map V.bl
  | _, _, .nil => rfl
  | _, _, .cons h t => by rw [show _ = V.bl _ from h, paired_bls t]; rfl
theorem paired_strs {G : Hp} : ∀ {vs : List V} {ns : List Str}, Paired (rStr.rel G) vs ns → vs = ns.map V.str
  | _, _, .nil => rfl
  | _, _, .cons h t => by rw [show _ = V.str _ from h, paired_strs t]; rfl
theorem ints_paired {G : Hp} : ∀ (ns : List Int), Paired (rInt.rel G) (ns.map V.int) ns
  | [] => .nil
  | _ :: t => .cons rfl (ints_paired t)
theorem strs_paired {G : Hp} : ∀ (ns : List Str), Paired (rStr.rel G) (ns.map V.str) ns
  | [] => .nil
  | _ :: t => .cons rfl (strs_paired t)
/-- the least, the greatest of some numbers -/
def minL : List Int → Int
  | [] => 0
  | a :: l => l.foldl min a
def maxL : List Int → Int
  | [] => 0
  | a :: l => l.foldl max a
theorem foldl_min_le (l : List Int) : ∀ a, l.foldl min a ≤ a ∧ ∀ b ∈ l, l.foldl min a ≤ b := by
  induction l with
  | nil => intro a; exact ⟨Int.le_refl _, fun b h => absurd h (by simp)⟩
  | cons c l ih =>
    intro a
    obtain ⟨h1, h2⟩ := ih (min a c)
    refine ⟨by rw [List.foldl_cons]; omega, fun b hb => ?_⟩
    rw [List.foldl_cons]
    rcases List.mem_cons.mp hb with rfl | hb
    · omega
    · exact h2 b hb
theorem foldl_min_mem (l : List Int) : ∀ a, l.foldl min a = a ∨ l.foldl min a ∈ l := by
  induction l with
  | nil => intro a; exact .inl rfl
  | cons c l ih =>
    intro a
    rw [List.foldl_cons]
    rcases ih (min a c) with h | h
    · by_cases q : a ≤ c
      · left; rw [h]; omega
      · right; rw [h, show min a c = c by omega]; exact List.mem_cons_self
    · exact .inr (List.mem_cons_of_mem _ h)
theorem minL_le {l : List Int} {b : Int} (h : b ∈ l) : minL l ≤ b := by
  cases l with
  | nil => exact absurd h (by simp)
  | cons a l =>
    rcases List.mem_cons.mp h with rfl | h
    · exact (foldl_min_le l _).1
    · exact (foldl_min_le l _).2 b h
theorem minL_mem {l : List Int} (h : l ≠ []) : minL l ∈ l := by
  cases l with
  | nil => exact absurd rfl h
  | cons a l =>
    rcases foldl_min_mem l a with h | h
    · show l.foldl min a ∈ _; rw [h]; exact List.mem_cons_self
    · exact List.mem_cons_of_mem _ h
theorem minL_eq {l : List Int} {m : Int} (h1 : m ∈ l) (h2 : ∀ b ∈ l, m ≤ b) : m = minL l := by
  have h3 := minL_le h1
  have h4 := h2 _ (minL_mem (List.ne_nil_of_mem h1))
  omega
theorem foldl_max_ge (l : List Int) : ∀ a, a ≤ l.foldl max a ∧ ∀ b ∈ l, b ≤ l.foldl max a := by
  induction l with
  | nil => intro a; exact ⟨Int.le_refl _, fun b h => absurd h (by simp)⟩
  | cons c l ih =>
    intro a
    obtain ⟨h1, h2⟩ := ih (max a c)
    refine ⟨by rw [List.foldl_cons]; omega, fun b hb => ?_⟩
    rw [List.foldl_cons]
    rcases List.mem_cons.mp hb with rfl | hb
    · omega
    · exact h2 b hb
theorem foldl_max_mem (l : List Int) : ∀ a, l.foldl max a = a ∨ l.foldl max a ∈ l := by
  induction l with
  | nil => intro a; exact .inl rfl
  | cons c l ih =>
    intro a
    rw [List.foldl_cons]
    rcases ih (max a c) with h | h
    · by_cases q : c ≤ a
      · left; rw [h]; omega
      · right; rw [h, show max a c = c by omega]; exact List.mem_cons_self
    · exact .inr (List.mem_cons_of_mem _ h)
theorem maxL_ge {l : List Int} {b : Int} (h : b ∈ l) : b ≤ maxL l := by
  cases l with
  | nil => exact absurd h (by simp)
  | cons a l =>
    rcases List.mem_cons.mp h with rfl | h
    · exact (foldl_max_ge l _).1
    · exact (foldl_max_ge l _).2 b h
theorem maxL_mem {l : List Int} (h : l ≠ []) : maxL l ∈ l := by
  cases l with
  | nil => exact absurd rfl h
  | cons a l =>
    rcases foldl_max_mem l a with h | h
    · show l.foldl max a ∈ _; rw [h]; exact List.mem_cons_self
    · exact List.mem_cons_of_mem _ h
theorem maxL_eq {l : List Int} {m : Int} (h1 : m ∈ l) (h2 : ∀ b ∈ l, b ≤ m) : m = maxL l := by
  have h3 := maxL_ge h1
  have h4 := h2 _ (maxL_mem (List.ne_nil_of_mem h1))
  omega

/-! ### len, min, max, sum, all, any, abs, int, tuple, list, sorted -/
variable {ns : List Int} {bs : List Bool}
theorem rd_up {G H : Hp} {u : HO} {a : Addr} (e : Same G H) (h : Rd G a u) : Rd H a u := same_rd e h
theorem ev_lenL (hm : X.mg "len" = none) (ha : EV X M e Γ (rLst R) xs) (hg : Gl X "len" := by rfl) (hs : starEach [e] X.env = (false, eval e X.env) :: starEach [] X.env := by rfl) (hpl : (backTo pos (starEach [] X.env)).any (·.1) = false := by rfl) : EV X M (.Call (.Name "len" p) [e] [] pos) Γ rInt (xs.length : Int) :=
  ev_B call_len_seq hm PySem.boot_len (ea_cons ha ea_nil hs) (fun _ h => by
    subst h
    intro G H vs o ar Q k
    obtain ⟨v, rfl, a, us, rfl, h2, h3⟩ := args1 ar
    exact ⟨a, us, rfl, .inl (.inl (rd_up o.gh h2)), k _ _ G H rfl (Step.refl o) (by show V.int _ = V.int _; rw [paired_len h3])⟩) hg (by decide) (by decide) hs hpl
theorem ev_lenT (hm : X.mg "len" = none) (ha : EV X M e Γ (rTup R) xs) (hg : Gl X "len" := by rfl) (hs : starEach [e] X.env = (false, eval e X.env) :: starEach [] X.env := by rfl) (hpl : (backTo pos (starEach [] X.env)).any (·.1) = false := by rfl) : EV X M (.Call (.Name "len" p) [e] [] pos) Γ rInt (xs.length : Int) :=
  ev_B call_len_seq hm PySem.boot_len (ea_cons ha ea_nil hs) (fun _ h => by
    subst h
    intro G H vs o ar Q k
    obtain ⟨v, rfl, a, us, rfl, h2, h3⟩ := args1 ar
    exact ⟨a, us, rfl, .inr (.inl (rd_up o.gh h2)), k _ _ G H rfl (Step.refl o) (by show V.int _ = V.int _; rw [paired_len h3])⟩) hg (by decide) (by decide) hs hpl
theorem ev_minL (hm : X.mg "min" = none) (hcalm : X.calm = true) (ha : EV X M e Γ (rLst rInt) ns) (h0 : 0 < ns.length) (hg : Gl X "min" := by rfl) (hs : starEach [e] X.env = (false, eval e X.env) :: starEach [] X.env := by rfl) (hpl : (backTo pos (starEach [] X.env)).any (·.1) = false := by rfl) : EV X M (.Call (.Name "min" p) [e] [] pos) Γ rInt (minL ns) :=
  ev_B (cr_min hcalm) hm (by decide +kernel) (ea_cons ha ea_nil hs) (fun _ h => by
    subst h
    intro G H vs o ar Q k
    obtain ⟨v, rfl, a, us, rfl, h2, h3⟩ := args1 ar
    rw [paired_ints h3] at h2
    exact ⟨a, ns, rfl, .inl (rd_up o.gh h2), h0, fun m h4 h5 => k _ _ G H rfl (Step.refl o) (by show V.int _ = V.int _; rw [minL_eq h4 h5])⟩) hg (by decide) (by decide) hs hpl
theorem ev_maxL (hm : X.mg "max" = none) (hcalm : X.calm = true) (ha : EV X M e Γ (rLst rInt) ns) (h0 : 0 < ns.length) (hg : Gl X "max" := by rfl) (hs : starEach [e] X.env = (false, eval e X.env) :: starEach [] X.env := by rfl) (hpl : (backTo pos (starEach [] X.env)).any (·.1) = false := by rfl) : EV X M (.Call (.Name "max" p) [e] [] pos) Γ rInt (maxL ns) :=
  ev_B (cr_max hcalm) hm (by decide +kernel) (ea_cons ha ea_nil hs) (fun _ h => by
    subst h
    intro G H vs o ar Q k
    obtain ⟨v, rfl, a, us, rfl, h2, h3⟩ := args1 ar
    rw [paired_ints h3] at h2
    exact ⟨a, ns, rfl, .inl (rd_up o.gh h2), h0, fun m h4 h5 => k _ _ G H rfl (Step.refl o) (by show V.int _ = V.int _; rw [maxL_eq h4 h5])⟩) hg (by decide) (by decide) hs hpl
theorem ev_min2 {i j : Int} (hm : X.mg "min" = none) (hcalm : X.calm = true) (ha : EV X M a Γ rInt i) (hb : EV X M b Γ rInt j) (hg : Gl X "min" := by rfl) (hs : starEach [a, b] X.env = (false, eval a X.env) :: starEach [b] X.env := by rfl) (hs2 : starEach [b] X.env = (false, eval b X.env) :: starEach [] X.env := by rfl) (hpl : (backTo pos (starEach [b] X.env)).any (·.1) = false := by rfl) : EV X M (.Call (.Name "min" p) [a, b] [] pos) Γ rInt (min i j) :=
  ev_B (call_min2 hcalm) hm (by decide +kernel) (ea_cons ha (ea_cons hb ea_nil hs2) hs) (fun _ h => by
    subst h
    intro G H vs o ar Q k
    obtain ⟨v, w, rfl, h2, h3⟩ := args2 ar
    exact ⟨i, j, by rw [show v = V.int i from h2, show w = V.int j from h3], k _ _ G H rfl (Step.refl o) (by show V.int _ = V.int _; congr 1; split <;> omega)⟩) hg (by decide) (by decide) hs hpl
theorem ev_max2 {i j : Int} (hm : X.mg "max" = none) (hcalm : X.calm = true) (ha : EV X M a Γ rInt i) (hb : EV X M b Γ rInt j) (hg : Gl X "max" := by rfl) (hs : starEach [a, b] X.env = (false, eval a X.env) :: starEach [b] X.env := by rfl) (hs2 : starEach [b] X.env = (false, eval b X.env) :: starEach [] X.env := by rfl) (hpl : (backTo pos (starEach [b] X.env)).any (·.1) = false := by rfl) : EV X M (.Call (.Name "max" p) [a, b] [] pos) Γ rInt (max i j) :=
  ev_B (call_max2 hcalm) hm (by decide +kernel) (ea_cons ha (ea_cons hb ea_nil hs2) hs) (fun _ h => by
    subst h
    intro G H vs o ar Q k
    obtain ⟨v, w, rfl, h2, h3⟩ := args2 ar
    exact ⟨i, j, by rw [show v = V.int i from h2, show w = V.int j from h3], k _ _ G H rfl (Step.refl o) (by show V.int _ = V.int _; congr 1; split <;> omega)⟩) hg (by decide) (by decide) hs hpl
theorem ev_sumL (hm : X.mg "sum" = none) (hcalm : X.calm = true) (ha : EV X M e Γ (rLst rInt) ns) (hg : Gl X "sum" := by rfl) (hs : starEach [e] X.env = (false, eval e X.env) :: starEach [] X.env := by rfl) (hpl : (backTo pos (starEach [] X.env)).any (·.1) = false := by rfl) : EV X M (.Call (.Name "sum" p) [e] [] pos) Γ rInt ns.sum :=
  ev_B (cr_sum hcalm) hm (by decide +kernel) (ea_cons ha ea_nil hs) (fun _ h => by
    subst h
    intro G H vs o ar Q k
    obtain ⟨v, rfl, a, us, rfl, h2, h3⟩ := args1 ar
    rw [paired_ints h3] at h2
    exact ⟨a, ns, rfl, .inl (rd_up o.gh h2), k _ _ G H rfl (Step.refl o) rfl⟩) hg (by decide) (by decide) hs hpl
theorem ev_all (hm : X.mg "all" = none) (hcalm : X.calm = true) (ha : EV X M e Γ (rLst rBool) bs) (hg : Gl X "all" := by rfl) (hs : starEach [e] X.env = (false, eval e X.env) :: starEach [] X.env := by rfl) (hpl : (backTo pos (starEach [] X.env)).any (·.1) = false := by rfl) : EV X M (.Call (.Name "all" p) [e] [] pos) Γ rBool (bs.all id) :=
  ev_B (cr_all hcalm) hm (by decide +kernel) (ea_cons ha ea_nil hs) (fun _ h => by
    subst h
    intro G H vs o ar Q k
    obtain ⟨v, rfl, a, us, rfl, h2, h3⟩ := args1 ar
    rw [paired_bls h3] at h2
    exact ⟨a, bs, rfl, .inl (rd_up o.gh h2), k _ _ G H rfl (Step.refl o) rfl⟩) hg (by decide) (by decide) hs hpl
theorem ev_any (hm : X.mg "any" = none) (hcalm : X.calm = true) (ha : EV X M e Γ (rLst rBool) bs) (hg : Gl X "any" := by rfl) (hs : starEach [e] X.env = (false, eval e X.env) :: starEach [] X.env := by rfl) (hpl : (backTo pos (starEach [] X.env)).any (·.1) = false := by rfl) : EV X M (.Call (.Name "any" p) [e] [] pos) Γ rBool (bs.any id) :=
  ev_B (cr_any hcalm) hm (by decide +kernel) (ea_cons ha ea_nil hs) (fun _ h => by
    subst h
    intro G H vs o ar Q k
    obtain ⟨v, rfl, a, us, rfl, h2, h3⟩ := args1 ar
    rw [paired_bls h3] at h2
    exact ⟨a, bs, rfl, .inl (rd_up o.gh h2), k _ _ G H rfl (Step.refl o) rfl⟩) hg (by decide) (by decide) hs hpl
theorem ev_abs {i : Int} (hm : X.mg "abs" = none) (ha : EV X M e Γ rInt i) (hg : Gl X "abs" := by rfl) (hs : starEach [e] X.env = (false, eval e X.env) :: starEach [] X.env := by rfl) (hpl : (backTo pos (starEach [] X.env)).any (·.1) = false := by rfl) : EV X M (.Call (.Name "abs" p) [e] [] pos) Γ rInt (i.natAbs : Int) :=
  ev_B call_abs hm (by decide +kernel) (ea_cons ha ea_nil hs) (fun _ h => by
    subst h
    intro G H vs o ar Q k
    obtain ⟨v, rfl, h2⟩ := args1 ar
    exact ⟨i, by rw [show v = V.int i from h2], k _ _ G H rfl (Step.refl o) (by show V.int _ = V.int _; congr 1; split <;> omega)⟩) hg (by decide) (by decide) hs hpl
theorem ev_intI {Pi : Int → Prop} (hm : X.mg "int" = none) (ha : EVt X M N e Γ rInt Pi) (hg : Gl X "int" := by rfl) (hs : starEach [e] X.env = (false, eval e X.env) :: starEach [] X.env := by rfl) (hpl : (backTo pos (starEach [] X.env)).any (·.1) = false := by rfl) (hF : M.F = N.F := by first | rfl | assumption) : EVt X M N (.Call (.Name "int" p) [e] [] pos) Γ rInt Pi :=
  ev_Ty call_int1 hm (by decide +kernel) (ea_consP ha ea_nil hs hF rfl) (fun _ h => by
    obtain ⟨i, r, h1, h2, h3⟩ := h
    subst h2 h3
    intro G H vs o ar Q k
    obtain ⟨v, rfl, h2⟩ := args1 ar
    exact .inl ⟨i, by rw [show v = V.int i from h2], k _ _ G H h1 (Step.refl o) rfl⟩) hg (by decide) (by decide) hs hpl
theorem ev_tupleL (hm : X.mg "tuple" = none) (ha : EV X M e Γ (rLst R) xs) (hg : Gl X "tuple" := by rfl) (hs : starEach [e] X.env = (false, eval e X.env) :: starEach [] X.env := by rfl) (hpl : (backTo pos (starEach [] X.env)).any (·.1) = false := by rfl) : EV X M (.Call (.Name "tuple" p) [e] [] pos) Γ (rTup R) xs :=
  ev_Ty call_tuple_of hm (by decide +kernel) (ea_cons ha ea_nil hs) (fun _ h => by
    subst h
    intro G H vs o ar Q k
    obtain ⟨v, rfl, a, us, rfl, h2, h3⟩ := args1 ar
    have hz := o.sz a us (.inl (rd_up o.gh h2))
    exact ⟨a, us, rfl, .inl ⟨.inl (rd_up o.gh h2), fun l hl => k _ _ _ _ rfl (Step.new o hl hz) ⟨l, us, rfl, .inl upd_same, R.pmono (same_upd (o.gnone hl)) h3⟩⟩⟩) hg (by decide) (by decide) hs hpl
theorem ef_listL (hm : X.mg "list" = none) (ha : EV X M e Γ (rLst R) xs) (hg : Gl X "list" := by rfl) (hs : starEach [e] X.env = (false, eval e X.env) :: starEach [] X.env := by rfl) (hpl : (backTo pos (starEach [] X.env)).any (·.1) = false := by rfl) : EF X M (.Call (.Name "list" p) [e] [] pos) Γ R xs :=
  ef_Ty call_list_of hm (by decide +kernel) (ea_cons ha ea_nil hs) (fun _ h => by
    subst h
    intro G H vs o ar Q k
    obtain ⟨v, rfl, a, us, rfl, h2, h3⟩ := args1 ar
    have hz := o.sz a us (.inl (rd_up o.gh h2))
    exact ⟨a, us, rfl, .inl (.inl (rd_up o.gh h2)), fun l hl => k l us xs G _ rfl (Step.own o hl hz) hl (o.gnone hl) upd_same h3⟩) hg (by decide) (by decide) hs hpl

/-! ### subscripts -/
theorem paired_at {κ : Type} {F : κ → α → Prop} : ∀ {vs : List κ} {xs : List α} {n : Nat} {x : α}, Paired F vs xs → xs[n]? = some x → ∃ v, vs[n]? = some v ∧ F v x
  | _, _, _, _, .nil, h => by simp at h
  | _, _, 0, _, .cons h _, e => by simp at e; subst e; exact ⟨_, rfl, h⟩
  | _, _, n + 1, x, .cons _ t, e => by
    obtain ⟨v, h1, h2⟩ := paired_at (n := n) (x := x) t (by simpa using e)
    exact ⟨v, by simpa using h1, h2⟩
theorem paired_at' {κ : Type} {F : κ → α → Prop} {vs : List κ} {xs : List α} {n : Nat} {v : κ} (h : Paired F vs xs) (e : vs[n]? = some v) : ∃ x, xs[n]? = some x ∧ F v x := by
  have hl : n < xs.length := by rw [← paired_len h]; exact (List.getElem?_eq_some_iff.mp e).1
  obtain ⟨w, h1, h2⟩ := paired_at h (List.getElem?_eq_getElem hl)
  rw [e] at h1; cases h1
  exact ⟨_, List.getElem?_eq_getElem hl, h2⟩
theorem atI_paired {F : V → α → Prop} {vs : List V} {xs : List α} {i : Int} {x : α} (h : Paired F vs xs) (e : atI xs i = some x) : ∃ v, atI vs i = some v ∧ F v x := by
  unfold atI at e ⊢
  rw [paired_len h]
  cases q : ixN xs.length i with
  | none => rw [q] at e; cases e
  | some j =>
    rw [q] at e
    exact paired_at h e
variable {i : Int}
theorem ev_ixT (ha : EV X M a Γ (rTup R) xs) (hb : EV X M b Γ rInt i) (hx : atI xs i = some x) (hs : PlainIx b := by exact fun _ _ => rfl) : EV X M (.Subscript a b pos) Γ R x :=
  ev_op2 (pe_ix ix_tup pe_of pe_of hs) ha hb fun _ _ h1 h2 => by
    subst h1; subst h2
    rintro G H v w o ⟨a, vs, rfl, r2, r3⟩ rfl Q k
    obtain ⟨u, h1, h2⟩ := atI_paired r3 hx
    exact ⟨a, vs, _, u, rfl, rfl, .inl (rd_up o.gh r2), h1, k u x G H rfl (Step.refl o) h2⟩
theorem ev_ixL (ha : EV X M a Γ (rLst R) xs) (hb : EV X M b Γ rInt i) (hx : atI xs i = some x) (hs : PlainIx b := by exact fun _ _ => rfl) : EV X M (.Subscript a b pos) Γ R x :=
  ev_op2 (pe_ix ix_list pe_of pe_of hs) ha hb fun _ _ h1 h2 => by
    subst h1; subst h2
    rintro G H v w o ⟨a, vs, rfl, r2, r3⟩ rfl Q k
    obtain ⟨u, h1, h2⟩ := atI_paired r3 hx
    exact ⟨a, vs, _, u, rfl, rfl, .inl (rd_up o.gh r2), h1, k u x G H rfl (Step.refl o) h2⟩
theorem ev_ixLP {Pi : Int → Prop} (ha : EV X M a Γ (rLst R) xs) (hb : EVt X M N b Γ rInt Pi) (hx : ∀ i, Pi i → ∃ x, atI xs i = some x ∧ P x) (hs : PlainIx b := by exact fun _ _ => rfl) (hF : M.F = N.F := by first | rfl | assumption) : EVt X M N (.Subscript a b pos) Γ R P :=
  ev_op2 (pe_ix ix_list pe_of pe_of hs) ha hb (fun l i h1 h2 => by
    subst h1
    rintro G H v w o ⟨a, vs, rfl, r2, r3⟩ rfl Q k
    obtain ⟨x, hx, px⟩ := hx i h2
    obtain ⟨u, h4, h5⟩ := atI_paired r3 hx
    exact ⟨a, vs, i, u, rfl, rfl, .inl (rd_up o.gh r2), h4, k u x G H px (Step.refl o) h5⟩) rfl hF
theorem atI_getD {l : List Int} {i : Int} (h0 : 0 ≤ i) (h1 : i < l.length) (d : Int) : atI l i = some (l.getD i.toNat d) := by
  obtain ⟨n, rfl⟩ := Int.eq_ofNat_of_zero_le h0
  have hn : n < l.length := by omega
  refine atI_nat (j := n) ?_
  show l[n]? = some (l.getD n d)
  rw [List.getD_eq_getElem?_getD, List.getElem?_eq_getElem hn]; rfl
theorem ev_fst {p : α × β} (ha : EV X M a Γ (rPair R S) p) (hb : EV X M b Γ rInt 0) (hs : PlainIx b := by exact fun _ _ => rfl) : EV X M (.Subscript a b pos) Γ R p.1 :=
  ev_op2 (pe_ix ix_tup pe_of pe_of hs) ha hb fun _ _ h1 h2 => by
    subst h1; subst h2
    rintro G H v w o ⟨a, v1, v2, rfl, r2, r3, r4⟩ rfl Q k
    exact ⟨a, _, _, v1, rfl, rfl, .inl (rd_up o.gh r2), rfl, k v1 _ G H rfl (Step.refl o) r3⟩
theorem ev_snd {p : α × β} (ha : EV X M a Γ (rPair R S) p) (hb : EV X M b Γ rInt 1) (hs : PlainIx b := by exact fun _ _ => rfl) : EV X M (.Subscript a b pos) Γ S p.2 :=
  ev_op2 (pe_ix ix_tup pe_of pe_of hs) ha hb fun _ _ h1 h2 => by
    subst h1; subst h2
    rintro G H v w o ⟨a, v1, v2, rfl, r2, r3, r4⟩ rfl Q k
    exact ⟨a, _, _, v2, rfl, rfl, .inl (rd_up o.gh r2), rfl, k v2 _ G H rfl (Step.refl o) r4⟩
end
end RT

/-! RT4: what is walked, targets, for, comprehensions, append. -/
namespace RT
open PySem L2
/-! ### targets -/
structure gOf (X : Cx) (tg : Expr) (v : V) (σ : St) (H : Hp) (Q : St → Hp → Prop) : Prop where
  run : ∀ (pins : List (Addr × Obj)) (s : Shared) (u : Value), Inv X pins σ H s → RelV v u →
  wpAny (model X.prog X.w) X.A (assign tg X.env u) (fun _ s' => ∃ σ' H', Inv X pins σ' H' s' ∧ Q σ' H') X.xe s
theorem pg_of {X : Cx} {tg : Expr} : PG X tg (gOf X tg) := ⟨fun pins s σ H v u Q I r h => h.run pins s u I r⟩
theorem of_pg {X : Cx} {tg : Expr} {g : TG} (p : PG X tg g) {v : V} {σ : St} {H : Hp} {Q : St → Hp → Prop} (h : g v σ H Q) : gOf X tg v σ H Q := ⟨fun pins s u I r => p.run pins s σ H v u Q I r h⟩
/-- tg takes a value told by x: what is known behind it; the slots it stores -/
def TGv (X : Cx) (M : Md) (tg : Expr) {α : Type} (R : Rp α) (f : α → List Ent → List Ent) (sl : List Nat) : Prop :=
  ∀ (H0 G H : Hp) (σ : St) (Γ : List Ent) (v : V) (x : α), Stt M H0 Γ σ G H → R.rel G v x → ∀ Q : St → Hp → Prop,
    (∀ σ', Stt M H0 (f x Γ) σ' G H → σ'.length = σ.length → (∀ j, j ∉ sl → σ'[j]? = σ[j]?) → Q σ' H) → gOf X tg v σ H Q
section
variable {X : Cx} {M : Md} {α β γ : Type} {R : Rp α} {S : Rp β} {pos : Pos} {y z : Str}
theorem tg_name (i : Nat) (hN : X.N.Nodup) (hi : X.N[i]? = some y := by rfl) (hx : Loc X.env.scope y := by first | exact Or.inl rfl | exact Or.inr rfl) (hf : X.fn y = true ∨ X.env.scope.names.lookup y = some .local := by first | exact .inl rfl | exact .inr rfl | assumption) :
    TGv X M (.Name y pos) R (fun x Γ => Γ.set i (.val R x)) [i] := fun H0 G H σ Γ v x t r Q k =>
  of_pg (pg_name hN hi hx hf) (k _ (t.putV i r) (by simp) fun j hj => List.getElem?_set_ne fun z => hj (by simp [z]))
theorem tg_pair {p1 p2 : Pos} {kk : Nat} (i j : Nat) (hc : X.calm = true) (hN : X.N.Nodup) (hi : X.N[i]? = some y := by rfl) (hx : Loc X.env.scope y := by first | exact Or.inl rfl | exact Or.inr rfl) (hj : X.N[j]? = some z := by rfl) (hy : Loc X.env.scope z := by first | exact Or.inl rfl | exact Or.inr rfl)
    (hf : X.fn y = true ∨ X.env.scope.names.lookup y = some .local := by first | exact .inl rfl | exact .inr rfl | assumption) (hf2 : X.fn z = true ∨ X.env.scope.names.lookup z = some .local := by first | exact .inl rfl | exact .inr rfl | assumption)
    (h1 : assignEach [.Name y p1, .Name z p2] X.env = (false, assign (.Name y p1) X.env) :: assignEach [.Name z p2] X.env := by rfl) (h2 : assignEach [.Name z p2] X.env = (false, assign (.Name z p2) X.env) :: assignEach [] X.env := by rfl)
    (hn : (assignEach [.Name y p1, .Name z p2] X.env).length = 2 := by rfl) (hst : (assignEach [.Name y p1, .Name z p2] X.env).findIdx? (·.1) = none := by rfl) :
    TGv X M (.Tuple [.Name y p1, .Name z p2] kk pos) (rPair R S) (fun x Γ => (Γ.set i (.val R x.1)).set j (.val S x.2)) [i, j] := fun H0 G H σ Γ v x t r Q k => by
  obtain ⟨a, v1, v2, rfl, r1, r2, r3⟩ := r
  refine of_pg (pg_tup hc (pgs_cons (pg_name hN hi hx hf) (pgs_cons (pg_name hN hj hy hf2) pgs_nil)) hn hst) ⟨a, [v1, v2], rfl, .inl (rd_up t.ok.gh r1), rfl, v1, [v2], rfl, v2, [], rfl, rfl, ?_⟩
  refine k _ ((t.putV i r2).putV j r3) (by simp) fun m hm => ?_
  rw [List.getElem?_set_ne fun z => hm (by simp [z]), List.getElem?_set_ne fun z => hm (by simp [z])]
end
/-! ### what is walked -/
def TWalk (M : Md) (J : It) {α : Type} (R : Rp α) (xs : List α) (G0 : Hp) : Prop :=
  ∃ (Gd : Hp → Prop) (Y : Nat → Hp → V → Hp → Prop), (∀ G H, Same G0 G → Same G H → Gd H) ∧ Walk J xs.length Gd Y ∧
    ∀ i H v H' G, Same G0 G → Okk M G H → Y i H v H' → ∃ G' x, xs[i]? = some x ∧ Step M G H G' H' ∧ R.rel G' v x
def ITt (X : Cx) (M N : Md) (tg iter : Expr) (Γ : List Ent) {α : Type} (R : Rp α) (P : List α → Prop) : Prop :=
  ∃ wi : TI, PI X tg iter wi ∧ ∀ (H0 G H : Hp) (σ : St), Stt M H0 Γ σ G H → ∀ K : It → Hp → Prop, (∀ J xs G' H', P xs → xs.length ≤ sizeLine → Step N G H G' H' → (∀ M', TWalk M' J R xs G') → K J H') → wi σ H K
abbrev ITp (X : Cx) (M : Md) (tg iter : Expr) (Γ : List Ent) {α : Type} (R : Rp α) (P : List α → Prop) : Prop := ITt X M M tg iter Γ R P
abbrev ITv (X : Cx) (M : Md) (tg iter : Expr) (Γ : List Ent) {α : Type} (R : Rp α) (xs : List α) : Prop := ITp X M tg iter Γ R (fun y => y = xs)
section
variable {X : Cx} {M N : Md} {Γ : List Ent} {α β γ : Type} {R : Rp α} {S : Rp β} {P : List α → Prop} {tg e a b : Expr} {pos p : Pos} {xs : List α}
theorem it_list (h : EVp X M e Γ (rLst R) P) : ITp X M tg e Γ R P := ⟨_, pi_list pe_of, fun H0 G H σ t K k =>
  h H0 G H σ t _ fun v xs G' H' px s r => by
    obtain ⟨a, vs, rfl, h2, h3⟩ := r
    have rd := rd_up s.gh h2
    refine ⟨a, rfl, ⟨vs, .inl rd⟩, k _ xs G' H' px (by rw [← paired_len h3]; exact s.sz a vs (.inl rd)) s fun M' => ⟨fun H => SqL X.K H a vs, _, fun G1 H1 g1 g2 => .inl (rd_up g2 (same_rd g1 h2)), by rw [← paired_len h3]; exact walk_list, fun i H1 v H2 G1 g1 o y => ?_⟩⟩
    obtain ⟨rfl, hy⟩ := y
    obtain ⟨x, h4, h5⟩ := paired_at' h3 hy
    exact ⟨G1, x, h4, Step.refl o, R.mono g1 h5⟩⟩
theorem it_tup (h : EVp X M e Γ (rTup R) P) : ITp X M tg e Γ R P := ⟨_, pi_tup pe_of, fun H0 G H σ t K k =>
  h H0 G H σ t _ fun v xs G' H' px s r => by
    obtain ⟨a, vs, rfl, h2, h3⟩ := r
    have rd := rd_up s.gh h2
    refine ⟨a, rfl, ⟨vs, .inl rd⟩, k _ xs G' H' px (by rw [← paired_len h3]; exact s.sz a vs (.inr rd)) s fun M' => ⟨fun H => SqT X.K H a vs, _, fun G1 H1 g1 g2 => .inl (rd_up g2 (same_rd g1 h2)), by rw [← paired_len h3]; exact walk_tup, fun i H1 v H2 G1 g1 o y => ?_⟩⟩
    obtain ⟨rfl, hy⟩ := y
    obtain ⟨x, h4, h5⟩ := paired_at' h3 hy
    exact ⟨G1, x, h4, Step.refl o, R.mono g1 h5⟩⟩
/-- the numbers lo, lo + 1, .. , n of them -/
def upto (lo : Int) (n : Nat) : List Int := (List.range n).map fun (i : Nat) => lo + (i : Int)
theorem upto_len {lo : Int} {n : Nat} : (upto lo n).length = n := by simp [upto]
theorem upto_at {lo : Int} {n i : Nat} (h : i < n) : (upto lo n)[i]? = some (lo + i) := by simp [upto, h]
theorem mem_upto {lo x : Int} {n : Nat} (h : x ∈ upto lo n) : lo ≤ x ∧ x < lo + n := by
  obtain ⟨i, h1, h2⟩ := List.mem_map.mp h
  have := List.mem_range.mp h1
  omega
theorem tw_range {G : Hp} {lo : Int} {n : Nat} : TWalk M (Itr lo n) rInt (upto lo n) G :=
  ⟨fun _ => True, fun i H x H' => i < n ∧ H' = H ∧ x = .int (lo + i), fun _ _ _ _ => trivial, by
    rw [upto_len]
    exact ⟨fun _ _ hi _ => hi, fun _ _ => Nat.le_refl _, fun i _ _ _ hi _ y => ⟨hi, y.1, y.2⟩⟩, fun i H1 v H2 G1 _ o y => by
    obtain ⟨hi, rfl, rfl⟩ := y
    exact ⟨G1, _, upto_at hi, Step.refl o, rfl⟩⟩
theorem it_range1P {Pi : Int → Prop} (hm : X.mg "range" = none) (ha : EVt X M N a Γ rInt Pi) (hb : ∀ i, Pi i → -16777216 ≤ i ∧ i ≤ 16777216) (hg : Gl X "range" := by rfl) (hs : starEach [a] X.env = (false, eval a X.env) :: starEach [] X.env := by rfl) (hF : M.F = N.F := by first | rfl | assumption) :
    ITt X M N tg (.Call (.Name "range" p) [a] [] pos) Γ rInt (fun xs => ∃ i, Pi i ∧ xs = upto 0 i.toNat) := ⟨_, pi_range1 hg hm pa_of hs, fun H0 G H σ t K k =>
  ea_consP ha ea_nil hs hF rfl H0 G H σ t _ fun vs as G' H' h s ar => by
    obtain ⟨i, r, h1, rfl, rfl⟩ := h
    obtain ⟨v, rfl, h2⟩ := args1 ar
    have hi := hb i h1
    exact ⟨i, by rw [show v = V.int i from h2], by omega, by omega, k _ _ G' H' ⟨i, h1, rfl⟩ (by rw [upto_len, sizeLine_eq]; omega) s fun _ => tw_range⟩⟩
theorem ITt.imp {tg iter : Expr} {P' : List α → Prop} (h : ITt X M N tg iter Γ R P) (hp : ∀ xs, P xs → P' xs) : ITt X M N tg iter Γ R P' :=
  let ⟨wi, h1, h2⟩ := h
  ⟨wi, h1, fun H0 G H σ t K k => h2 H0 G H σ t K fun J xs G' H' px => k J xs G' H' (hp xs px)⟩
theorem it_range1 {i : Int} (hm : X.mg "range" = none) (ha : EV X M a Γ rInt i) (hb : -16777216 ≤ i ∧ i ≤ 16777216) (hg : Gl X "range" := by rfl) (hs : starEach [a] X.env = (false, eval a X.env) :: starEach [] X.env := by rfl) :
    ITv X M tg (.Call (.Name "range" p) [a] [] pos) Γ rInt (upto 0 i.toNat) := (it_range1P hm ha (fun j h => h ▸ hb) hg hs rfl).imp fun xs ⟨j, h1, h2⟩ => by rw [h2, h1]
theorem it_range2 {i j : Int} (hm : X.mg "range" = none) (ha : EV X M a Γ rInt i) (hb : EV X M b Γ rInt j) (hz : -16777216 ≤ i ∧ i ≤ 16777216 ∧ -16777216 ≤ j ∧ j ≤ 16777216 ∧ j - i ≤ 16777216) (hg : Gl X "range" := by rfl) (hs : starEach [a, b] X.env = (false, eval a X.env) :: starEach [b] X.env := by rfl) (hs2 : starEach [b] X.env = (false, eval b X.env) :: starEach [] X.env := by rfl) (hs3 : starEach [a, b] X.env = [(false, eval a X.env), (false, eval b X.env)] := by rfl) :
    ITv X M tg (.Call (.Name "range" p) [a, b] [] pos) Γ rInt (upto i (j - i).toNat) := ⟨_, pi_range2 hg hm pa_of hs3 hs2, fun H0 G H σ t K k =>
  ea_cons ha (ea_cons hb ea_nil hs2) hs H0 G H σ t _ fun vs as G' H' h s ar => by
    subst h
    obtain ⟨v, w, rfl, h2, h3⟩ := args2 ar
    exact ⟨i, j, by rw [show v = V.int i from h2, show w = V.int j from h3], ⟨by omega, by omega, by omega, by omega⟩, k _ _ G' H' rfl (by rw [upto_len, sizeLine_eq]; omega) s fun _ => tw_range⟩⟩
/-- a text, sign by sign -/
def signs (z : Str) : List Str := z.cps.toList.map fun c => ⟨#[c]⟩
theorem it_str {z : Str} (ha : EV X M a Γ rStr z) (hz : z.cps.size ≤ 16777216) : ITv X M tg a Γ rStr (signs z) := ⟨_, pi_str pe_of, fun H0 G H σ t K k =>
  ha H0 G H σ t _ fun v x G' H' e s r => ⟨z, by rw [show v = V.str x from r, e], k _ _ G' H' rfl (by simp [signs, sizeLine_eq]; exact hz) s fun M' =>
    ⟨fun _ => True, _, fun _ _ _ _ => trivial, by rw [show (signs z).length = z.cps.size by simp [signs]]; exact walk_str, fun i H1 v H2 G1 _ o y => by
      obtain ⟨rfl, c, h1, rfl⟩ := y
      exact ⟨G1, ⟨#[c]⟩, by simp [signs, h1], Step.refl o, rfl⟩⟩⟩⟩
end

/-! ### for -/
theorem Step.base {M : Md} {G0 H0 G H G' : Hp} (s : Step M G0 H0 G H) (a : Same G0 G') (b : Same G' G) : Step M G' H0 G H := ⟨b, s.gh, s.sz, s.h, fun x hx e => s.nw x hx (a.free e), s.i, s.f⟩
theorem Step.unbase2 {M N : Md} {G0 H0 G H G' H' : Hp} (s : Step M G' H0 G H) (a : Step N G0 H0 G' H') : Step M G0 H0 G H := ⟨a.g.trans s.g, s.gh, s.sz, s.h, fun x hx e => s.nw x hx (a.nw x hx e), s.i, s.f⟩
theorem Step.unbase {M : Md} {G0 H0 G H G' H' : Hp} (s : Step M G' H0 G H) (a : Step M G0 H0 G' H') : Step M G0 H0 G H := ⟨a.g.trans s.g, s.gh, s.sz, s.h, fun x hx e => s.nw x hx (a.nw x hx e), s.i, s.f⟩
section
variable {X : Cx} {M : Md} {Γ : List Ent} {α β γ : Type} {R : Rp α} {S : Rp β} {P : List α → Prop} {tg iter e a b : Expr} {pos p : Pos} {xs : List α} {f : α → List Ent → List Ent} {sl : List Nat} {body rest : List Stmt} {Po : Post} {N : List Ent → Prop}
theorem s1_forT {M0 T : Md} (Mi : Nat → Md) (hp : PassesOwn (model X.prog X.w) X.A X.env X.xe) (hc : X.calm = true) (it : ITt X M M0 tg iter Γ R P) (tgv : ∀ M, TGv X M tg R f sl) (W : List α → Nat → List Ent → Prop) (h0 : ∀ xs, P xs → ∃ Γ', Weak Γ Γ' ∧ W xs 0 Γ')
    (hs : ∀ xs i x Γi, P xs → xs.length ≤ 16777216 → xs[i]? = some x → W xs i Γi → SSt X (Mi i) (Mi (i + 1)) body (f x Γi) { nx := W xs (i + 1), ct := W xs (i + 1), bk := Po.nx, rt := Po.rt })
    (hd : ∀ xs Γn, P xs → W xs xs.length Γn → Po.nx Γn) (hm0 : Mi 0 = M0) (hFi : ∀ i, M.F = (Mi i).F) (hL : ∀ xs i, P xs → i ≤ xs.length → Le (Mi i) T) (hf : ∀ x, foldedSetIterable iter X.env x = pure x := by intro _; rfl) : S1t X M T (.For tg iter body [] pos) Γ Po := fun G0 H0 G H σ D t s m => by
  obtain ⟨wi, hi, hw⟩ := it
  subst hm0
  refine of_ps (ps_for hp hc hi pg_of pss_of hf) (hw H0 G H σ t _ fun J xs G' H' px hz s' tw => ?_)
  obtain ⟨Gd, Y, g1, wk, _⟩ := tw (Mi 0)
  have tw' : ∀ i, ∃ (Gd' : Hp → Prop) (Y' : Nat → Hp → V → Hp → Prop), (∀ G H, Same G' G → Same G H → Gd' H) ∧ Walk J xs.length Gd' Y' ∧ ∀ j H v H' G, Same G' G → Okk (Mi i) G H → Y' j H v H' → ∃ G2 x, xs[j]? = some x ∧ Step (Mi i) G H G2 H' ∧ R.rel G2 v x := fun i => tw (Mi i)
  obtain ⟨Γ', w0, i0⟩ := h0 xs px
  rw [sizeLine_eq] at hz
  have wk' : Walk J xs.length Gd (fun i H v H' => J.yld i H v H') := ⟨wk.goes, wk.stops, fun i H x H' _ _ y => y⟩
  refine for_it wk' (fun i σ1 H1 => i ≤ xs.length ∧ ∃ Γ1 G1, W xs i Γ1 ∧ Stt (Mi i) H0 Γ1 σ1 G1 H1 ∧ Step (Mi i) G0 H0 G1 H1 ∧ Same G' G1) ⟨Nat.zero_le _, Γ', G', i0, (t.step2 (hFi 0) s').weak w0, s.trans2 (hFi 0) s', Same.refl _⟩ (fun i σ1 H1 _ ⟨_, Γ1, G1, _, t1, _, sm⟩ => g1 G1 H1 sm t1.ok.gh) (fun i v σ1 H1 H2 hi hPv hy => ?_) fun σ1 H1 ⟨_, Γ1, G1, i1, t1, s1, _⟩ => (m.le (hL xs _ px (Nat.le_refl _))).nx Γ1 σ1 G1 H1 (hd xs Γ1 px i1) t1 s1
  obtain ⟨hile, Γ1, G1, i1, t1, s1, sm⟩ := hPv
  obtain ⟨Gd', Y', g1', wk2, g2⟩ := tw' i
  obtain ⟨G2, x, hx, s2, r2⟩ := g2 i H1 v H2 G1 sm t1.ok (wk2.yields i H1 v H2 hi (g1' G1 H1 sm t1.ok.gh) hy)
  refine tgv (Mi i) H0 G2 H2 σ1 Γ1 v x (t1.step s2) r2 _ fun σ2 t2 _ _ => ?_
  have b0 := s.trans2 (hFi 0) s'
  have hFF : (Mi 0).F = (Mi (i + 1)).F := (hFi 0).symm.trans (hFi (i + 1))
  have hF0 : (Mi 0).F = (Mi i).F := (hFi 0).symm.trans (hFi i)
  have ub : ∀ {G3 H3 : Hp}, Step (Mi (i + 1)) G' H0 G3 H3 → Step (Mi (i + 1)) G0 H0 G3 H3 := fun s3 => s3.unbase2 b0
  have lt := (m.le (hL xs _ px hi))
  exact hs xs i x Γ1 px hz hx i1 G' H0 G2 H2 σ2 _ t2 ((s1.trans s2).base b0.g (sm.trans s2.g)) ⟨fun Γ3 σ3 G3 H3 w3 t3 s3 => ⟨hi, Γ3, G3, w3, t3, ub s3, s3.g⟩, fun R' x' v' G3 H3 r3 s3 => lt.rt R' x' v' G3 H3 r3 (ub s3),
    fun Γ3 σ3 G3 H3 n3 t3 s3 => lt.nx Γ3 σ3 G3 H3 n3 t3 (ub s3), fun Γ3 σ3 G3 H3 w3 t3 s3 => ⟨hi, Γ3, G3, w3, t3, ub s3, s3.g⟩⟩
theorem s1_for (hp : PassesOwn (model X.prog X.w) X.A X.env X.xe) (hc : X.calm = true) (it : ITp X M tg iter Γ R P) (tgv : ∀ M, TGv X M tg R f sl) (W : List α → Nat → List Ent → Prop) (h0 : ∀ xs, P xs → ∃ Γ', Weak Γ Γ' ∧ W xs 0 Γ')
    (hs : ∀ xs i x Γi, P xs → xs.length ≤ 16777216 → xs[i]? = some x → W xs i Γi → SS X M body (f x Γi) { nx := W xs (i + 1), ct := W xs (i + 1), bk := Po.nx, rt := Po.rt })
    (hd : ∀ xs Γn, P xs → W xs xs.length Γn → Po.nx Γn) (hf : ∀ x, foldedSetIterable iter X.env x = pure x := by intro _; rfl) : S1 X M (.For tg iter body [] pos) Γ Po :=
  s1_forT (fun _ => M) hp hc it tgv W h0 hs hd rfl (fun _ => rfl) (fun _ _ _ _ => Le.refl _) hf
theorem ss_forF {σt : Type} {T : Md} (hp : PassesOwn (model X.prog X.w) X.A X.env X.xe) (hc : X.calm = true) (it : ITv X M tg iter Γ R xs) (tgv : ∀ M, TGv X M tg R f sl) (stp : σt → α → σt) (s0 : σt) (Γf : σt → List Ent) (w : Weak Γ (Γf s0))
    (hs : ∀ i x s, xs.length ≤ 16777216 → xs[i]? = some x → s = (xs.take i).foldl stp s0 → SS X M body (f x (Γf s)) { nx := fun Γ' => Weak Γ' (Γf (stp s x)), ct := fun Γ' => Weak Γ' (Γf (stp s x)), rt := Po.rt })
    (hr : SSt X M T rest (Γf (xs.foldl stp s0)) Po) (hf : ∀ x, foldedSetIterable iter X.env x = pure x := by intro _; rfl) (hle : Le M T := by first | exact Le.refl _ | assumption | exact Le.up (by omega)) : SSt X M T (.For tg iter body [] pos :: rest) Γ Po :=
  ss_consL hle (N := fun Γ' => Γ' = Γf (xs.foldl stp s0)) (s1_for hp hc it tgv (fun ys i Γ' => Γ' = Γf ((ys.take i).foldl stp s0)) (fun ys e => by subst e; exact ⟨_, w, rfl⟩)
    (fun ys i x Γi e hz hx ei => by
      subst e; subst ei
      have hn : (ys.take (i + 1)).foldl stp s0 = stp ((ys.take i).foldl stp s0) x := by rw [List.take_add_one, hx]; simp
      exact ss_imp (hs i x _ hz hx rfl) (fun Γ' q => ⟨_, q, by rw [hn]⟩) (fun _ z => z) (fun _ z => z.elim) (fun Γ' q => ⟨_, q, by rw [hn]⟩))
    (fun ys Γn e ei => by subst e; rw [ei, List.take_length]) hf) fun Γ' q => q ▸ hr
/-- a loop whose turns draw: at turn i the mode is Mi i -/
theorem ss_forT {M0 T : Md} (Mi : Nat → Md) (Mn : Md) (hp : PassesOwn (model X.prog X.w) X.A X.env X.xe) (hc : X.calm = true) (it : ITt X M M0 tg iter Γ R P) (tgv : ∀ M, TGv X M tg R f sl) (W : List α → Nat → List Ent → Prop) (h0 : ∀ xs, P xs → ∃ Γ', Weak Γ Γ' ∧ W xs 0 Γ')
    (hs : ∀ xs i x Γi, P xs → xs.length ≤ 16777216 → xs[i]? = some x → W xs i Γi → SSt X (Mi i) (Mi (i + 1)) body (f x Γi) { nx := W xs (i + 1), ct := W xs (i + 1), rt := Po.rt })
    (hm0 : Mi 0 = M0) (hFi : ∀ i, M.F = (Mi i).F) (hL : ∀ xs i, P xs → i ≤ xs.length → Le (Mi i) Mn) (hr : ∀ xs Γ', P xs → W xs xs.length Γ' → SSt X Mn T rest Γ' Po) (hf : ∀ x, foldedSetIterable iter X.env x = pure x := by intro _; rfl) (hle : Le Mn T := by first | exact Le.refl _ | assumption | exact Le.up (by omega)) : SSt X M T (.For tg iter body [] pos :: rest) Γ Po :=
  ss_consL hle (N := fun Γ' => ∃ xs, P xs ∧ W xs xs.length Γ') (s1_forT Mi hp hc it tgv W h0
    (fun xs i x Γi px hz hx w => ss_imp (hs xs i x Γi px hz hx w) (fun Γ' q => ⟨_, Weak.refl _, q⟩) (fun _ z => z) (fun _ z => z.elim) (fun Γ' q => ⟨_, Weak.refl _, q⟩))
    (fun xs Γn px w => ⟨xs, px, w⟩) hm0 hFi hL hf) fun Γ' ⟨xs, px, w⟩ => hr xs Γ' px w
/-- a loop that changes nothing that is told behind it -/
theorem ss_for0 {T : Md} (hp : PassesOwn (model X.prog X.w) X.A X.env X.xe) (hc : X.calm = true) (it : ITp X M tg iter Γ R P) (tgv : ∀ M, TGv X M tg R f sl) (Γ1 : List Ent) (w : Weak Γ Γ1)
    (hs : ∀ (xs : List α) (i : Nat) (x : α), P xs → xs.length ≤ 16777216 → xs[i]? = some x → SS X M body (f x Γ1) { nx := fun Γ' => Weak Γ' Γ1, ct := fun Γ' => Weak Γ' Γ1, rt := Po.rt })
    (hr : SSt X M T rest Γ1 Po) (hf : ∀ x, foldedSetIterable iter X.env x = pure x := by intro _; rfl) (hle : Le M T := by first | exact Le.refl _ | assumption | exact Le.up (by omega)) : SSt X M T (.For tg iter body [] pos :: rest) Γ Po :=
  ss_consL hle (N := fun Γ' => Γ' = Γ1) (s1_for hp hc it tgv (fun ys i Γ' => Γ' = Γ1) (fun ys e => ⟨_, w, rfl⟩)
    (fun ys i x Γi e hz hx ei => by
      subst ei
      exact ss_imp (hs ys i x e hz hx) (fun Γ' q => ⟨_, q, rfl⟩) (fun _ z => z) (fun _ z => z.elim) (fun Γ' q => ⟨_, q, rfl⟩))
    (fun ys Γn e ei => ei) hf) fun Γ' q => q ▸ hr

/-! ### l.append(e), l a list of the slot's own -/
structure BmOk (X : Cx) (e : Expr) (es : List Expr) (apos cpos : Pos) : Prop where
  few : ((backTo cpos (starEach (e :: es) X.env)).all (fun x => !x.1) && (backToKw cpos (keywordEach [] X.env)).all (fun x => x.1.isSome)
      && decide ((e :: es).length + ([] : List Keyword).length + (if ([] : List Keyword).isEmpty then 0 else 1) < 30)) = true
  line : (apos.endLine == cpos.line) = true
  st : starEach (e :: es) X.env = (false, eval e X.env) :: starEach es X.env
  pl : (backTo cpos (starEach es X.env)).any (·.1) = false
theorem s1_append {T : Md} {y : Str} {Pa : α → Prop} {np apos cpos : Pos} (i : Nat) (hi : Γ[i]? = some (.own R xs)) (hz : xs.length < 16777216) (he : EVt X M T e Γ R Pa) (hn : ∀ x, Pa x → Po.nx (Γ.set i (.own R (xs ++ [x]))))
    (hN : X.N[i]? = some y := by rfl) (hv : Vis X.env.scope y := by first | exact Or.inl rfl | exact Or.inr (Or.inl rfl) | exact Or.inr (Or.inr rfl)) (hd : (y == ("__debug__" : Str)) = false := by decide) (hcd : (y == ("__classdict__" : Str)) = false := by decide)
    (hb : BmOk X e [] apos cpos := by exact ⟨rfl, rfl, rfl, rfl⟩) (hsw : swapsWith (.Call (.Attribute (.Name y np) "append" apos) [e] [] cpos) none pos.line X.env = pure false := by rfl) (hF : M.F = T.F := by first | rfl | assumption) :
    S1t X M T (.Expr (.Call (.Attribute (.Name y np) "append" apos) [e] [] cpos) pos) Γ Po := fun G0 H0 G H σ D t s m => by
  obtain ⟨a, vs, h1, h2, h3, h4, h5, h6⟩ := t.ent i _ hi
  refine of_ps (ps_expr (pe_bm PySem.F.plainAttrs_list PySem.F.slot_list_append PySem.F.type_list_append mt_append (pe_var hN hv hd hcd) (pa_cons pe_of pa_nil hb.st) rfl hb.few hb.line hb.st hb.pl) hsw) ⟨_, h1, .inl ⟨rfl, _, SqL.of h2⟩, ?_⟩
  refine he H0 G H σ t _ fun v x G1 H1 px s1 r1 => ?_
  have t1 := t.step2 hF s1
  have e1 : H1 a = some (.lst vs) := s1.h a _ (by rw [← hF]; exact h4) h2
  have hl : vs.length = xs.length := paired_len h6
  have hz' : (vs ++ [v]).length ≤ sizeLine := by rw [List.length_append, hl, sizeLine_eq]; simp; omega
  refine ⟨a, vs, v, rfl, rfl, e1, by rw [hl, sizeLine_eq]; exact hz, ?_⟩
  have h4' : a ∉ T.F := by rw [← hF]; exact h4
  have g1 : G1 a = none := s1.nw a (by rw [h2]; exact fun z => nomatch z) h3
  exact m.nx _ σ G1 _ (hn x px) (t1.chg hi h1 hz' (Paired.snoc (R.pmono s1.g h6) r1)) ((s.trans2 hF s1).chg t1.ok g1 h4' h5 hz')
theorem ss_appendP {M1 T : Md} {y : Str} {Pa : α → Prop} {np apos cpos : Pos} (i : Nat) (hi : Γ[i]? = some (.own R xs)) (hz : xs.length < 16777216) (he : EVt X M M1 e Γ R Pa) (hr : ∀ x, Pa x → SSt X M1 T rest (Γ.set i (.own R (xs ++ [x]))) Po)
    (hN : X.N[i]? = some y := by rfl) (hv : Vis X.env.scope y := by first | exact Or.inl rfl | exact Or.inr (Or.inl rfl) | exact Or.inr (Or.inr rfl)) (hd : (y == ("__debug__" : Str)) = false := by decide) (hcd : (y == ("__classdict__" : Str)) = false := by decide)
    (hb : BmOk X e [] apos cpos := by exact ⟨rfl, rfl, rfl, rfl⟩) (hsw : swapsWith (.Call (.Attribute (.Name y np) "append" apos) [e] [] cpos) none pos.line X.env = pure false := by rfl) (hF : M.F = M1.F := by first | rfl | assumption) :
    SSt X M T (.Expr (.Call (.Attribute (.Name y np) "append" apos) [e] [] cpos) pos :: rest) Γ Po :=
  ss_consG (N := fun Γ' => ∃ x, Pa x ∧ Γ' = Γ.set i (.own R (xs ++ [x]))) (s1_append i hi hz he (fun x z => ⟨x, z, rfl⟩) hN hv hd hcd hb hsw hF) fun _ ⟨x, z, q⟩ => q ▸ hr x z
theorem ss_append {T : Md} {y : Str} {x : α} {np apos cpos : Pos} (i : Nat) (hi : Γ[i]? = some (.own R xs)) (hz : xs.length < 16777216) (he : EV X M e Γ R x) (hr : SSt X M T rest (Γ.set i (.own R (xs ++ [x]))) Po)
    (hN : X.N[i]? = some y := by rfl) (hv : Vis X.env.scope y := by first | exact Or.inl rfl | exact Or.inr (Or.inl rfl) | exact Or.inr (Or.inr rfl)) (hd : (y == ("__debug__" : Str)) = false := by decide) (hcd : (y == ("__classdict__" : Str)) = false := by decide)
    (hb : BmOk X e [] apos cpos := by exact ⟨rfl, rfl, rfl, rfl⟩) (hsw : swapsWith (.Call (.Attribute (.Name y np) "append" apos) [e] [] cpos) none pos.line X.env = pure false := by rfl) :
    SSt X M T (.Expr (.Call (.Attribute (.Name y np) "append" apos) [e] [] cpos) pos :: rest) Γ Po :=
  ss_appendP i hi hz he (fun _ z => z ▸ hr) hN hv hd hcd hb hsw rfl
end

/-! ### list comprehensions -/
def wipeE (Γ : List Ent) : List Nat → List Ent
  | [] => Γ
  | v :: vs => (wipeE Γ vs).set v .any
structure tsOf (X : Cx) (ifs : List Expr) (σ : St) (H : Hp) (Q : Bool → Hp → Prop) : Prop where
  run : ∀ (pins : List (Addr × Obj)) (s : Shared), Inv X pins σ H s →
  wpAny (model X.prog X.w) X.A (forIn ifs true fun c r => if r = true then do let ok ← isTrue c X.env (eval c X.env); pure (ForInStep.yield ok) else pure (ForInStep.yield r)) (TP X pins σ Q) X.xe s
def TSv (X : Cx) (M : Md) (ifs : List Expr) (Γ : List Ent) (b : Bool) : Prop :=
  ∀ (H0 G H : Hp) (σ : St), Stt M H0 Γ σ G H → ∀ Q : Bool → Hp → Prop, (∀ G' H', Step M G H G' H' → Q b H') → tsOf X ifs σ H Q
section
variable {X : Cx} {M : Md} {Γ : List Ent} {α β γ : Type} {R : Rp α} {S : Rp β} {P : List α → Prop} {tg iter elt : Expr} {ifs : List Expr} {pos : Pos} {xs : List α} {f : α → List Ent → List Ent} {sl : List Nat}
theorem ts_nil : TSv X M [] Γ true := fun H0 G H σ t Q k => ⟨fun pins s I => pts_nil.run pins s σ H Q I (k G H (Step.refl t.ok))⟩
theorem ts_one {c : Expr} {b : Bool} (h : TV X M c Γ b) : TSv X M [c] Γ b := fun H0 G H σ t Q k => ⟨fun pins s I => (pts_one pt_of).run pins s σ H Q I (h H0 G H σ t Q fun d G' H' e s => e ▸ k G' H' s)⟩
theorem Stt.none {G H H0 : Hp} {σ : St} (t : Stt M H0 Γ σ G H) (i : Nat) : Stt M H0 (Γ.set i .any) (σ.set i Option.none) G H := by
  have hw : Stt M H0 (Γ.set i .any) σ G H := t.weak (by
    have q : ∀ (Γ : List Ent) (i : Nat), Weak Γ (Γ.set i .any) := fun Γ => by
      induction Γ with
      | nil => intro i; exact trivial
      | cons e Γ ih =>
        intro i
        cases i with
        | zero => exact ⟨.inl rfl, Weak.refl _⟩
        | succ n => exact ⟨.inr rfl, ih n⟩
    exact q Γ i)
  refine ⟨hw.ok, by simpa using hw.len, fun j e h => ?_, fun j k a hjk o1 o2 => ?_⟩
  · by_cases hj : i = j
    · subst hj
      have hl : i < Γ.length := by have := (List.getElem?_eq_some_iff.mp h).1; simpa using this
      rw [List.getElem?_set_self hl] at h; cases h; trivial
    · have q := hw.ent j e h
      have hs : (σ.set i Option.none)[j]? = σ[j]? := List.getElem?_set_ne hj
      cases e with
      | any => trivial
      | val R' x' => obtain ⟨w, z1, z2⟩ := q; exact ⟨w, hs.trans z1, z2⟩
      | own R' xs' => obtain ⟨a, vs, z1, z2⟩ := q; exact ⟨a, vs, hs.trans z1, z2⟩
      | own2 U => obtain ⟨a, vs, z1, z2⟩ := q; exact ⟨a, vs, hs.trans z1, z2⟩
      | adr a => exact hs.trans q
      | obj a C fs => obtain ⟨dx, vs, z1, z2⟩ := q; exact ⟨dx, vs, hs.trans z1, z2⟩
  · have ne : ∀ m, IsOwn (Γ.set i .any)[m]? → i ≠ m := fun m o z => by
      subst z
      by_cases hl : i < Γ.length
      · rw [List.getElem?_set_self hl] at o; exact o
      · rw [List.getElem?_eq_none (by simpa using hl)] at o; exact o
    rw [List.getElem?_set_ne (ne j o1), List.getElem?_set_ne (ne k o2)]
    exact hw.dis j k a hjk o1 o2
theorem Stt.wipe {G H H0 : Hp} {σ : St} (t : Stt M H0 Γ σ G H) : ∀ vs : List Nat, Stt M H0 (wipeE Γ vs) (L2.wipe σ vs) G H
  | [] => t
  | v :: vs => (Stt.wipe t vs).none v
theorem wipe_at {σ : St} {j : Nat} : ∀ {vs : List Nat}, j ∉ vs → (L2.wipe σ vs)[j]? = σ[j]?
  | [], _ => rfl
  | v :: vs, h => by
    show ((L2.wipe σ vs).set v Option.none)[j]? = _
    rw [List.getElem?_set_ne fun z => h (by simp [z])]
    exact wipe_at fun z => h (by simp [z])
theorem wipe_in {σ : St} {j : Nat} : ∀ {vs : List Nat}, j ∈ vs → j < σ.length → (L2.wipe σ vs)[j]? = some Option.none
  | v :: vs, h, hl => by
    show ((L2.wipe σ vs).set v Option.none)[j]? = _
    by_cases e : v = j
    · subst e; exact List.getElem?_set_self (by rw [wipe_length]; exact hl)
    · rw [List.getElem?_set_ne e]
      rcases List.mem_cons.mp h with z | z
      · exact absurd z.symm e
      · exact wipe_in z hl
theorem wipe_eq {σ τ : St} {vs : List Nat} (hl : σ.length = τ.length) (h : ∀ j, j ∉ vs → σ[j]? = τ[j]?) : L2.wipe σ vs = L2.wipe τ vs := by
  refine List.ext_getElem? fun j => ?_
  by_cases hj : j ∈ vs
  · by_cases hlt : j < σ.length
    · rw [wipe_in hj hlt, wipe_in hj (by omega)]
    · rw [List.getElem?_eq_none (by rw [wipe_length]; omega), List.getElem?_eq_none (by rw [wipe_length]; omega)]
  · rw [wipe_at hj, wipe_at hj, h j hj]
def gBlk (X : Cx) (scope : Scope) (tg : Expr) : TG := fun v σ H Q => ∀ (s : Shared) (H1 : Hp) (C : Addr) (cl : List (Str × Addr)) (fp : List Addr), gOf (X.blk s H1 scope (compEnvC scope cl C X.env) fp) tg v σ H Q
def ttBlk (X : Cx) (scope : Scope) (ifs : List Expr) : TT := fun σ H Q => ∀ (s : Shared) (H1 : Hp) (C : Addr) (cl : List (Str × Addr)) (fp : List Addr), tsOf (X.blk s H1 scope (compEnvC scope cl C X.env) fp) ifs σ H Q
def teBlk (X : Cx) (scope : Scope) (elt : Expr) : TE := fun σ H Q => ∀ (s : Shared) (H1 : Hp) (C : Addr) (cl : List (Str × Addr)) (fp : List Addr), tOf (X.blk s H1 scope (compEnvC scope cl C X.env) fp) elt σ H Q
/-- a list comprehension that is told -/
def LCt (X : Cx) (M N : Md) (elt tg iter : Expr) (ifs : List Expr) (scope : Scope) (own : List (Str × Nat)) (Γ : List Ent) {β : Type} (S : Rp β) (P : List β → Prop) : Prop :=
  ∃ wi : TI, PI X tg iter wi ∧ X.calm = true ∧ X.N.Nodup ∧ BlkOk X.N X.env.scope scope own ∧ (∀ x, foldedSetIterable iter X.env x = pure x) ∧ ∀ (H0 G H : Hp) (σ : St), Stt M H0 Γ σ G H → ∀ Q : VK,
    (∀ p vs xs G' H', P xs → Step N G H G' H' → H p = none → G' p = none → H' p = some (.lst vs) → Paired (S.rel G') vs xs → Q (.ref p) H') → tLc wi (gBlk X scope tg) (ttBlk X scope ifs) (teBlk X scope elt) (own.map (·.2)) σ H Q
theorem LCt.ef {N : Md} {scope : Scope} {own : List (Str × Nat)} {P : List β → Prop} (h : LCt X M N elt tg iter ifs scope own Γ S P) : EFt X M N (.ListComp elt [⟨tg, iter, ifs, 0⟩] scope pos) Γ S P := fun H0 G H σ t Q k => by
  obtain ⟨wi, hi, hc, hN, ok, hs, hw⟩ := h
  exact of_pe (pe_lc (g := gBlk X scope tg) (tt := ttBlk X scope ifs) (te := teBlk X scope elt) hc hN hi ok
    (fun s H1 C cl fp => ⟨fun pins s' σ' H' v u Q' I r h => (h s H1 C cl fp).run pins s' u I r⟩) (fun s H1 C cl fp => ⟨fun pins s' σ' H' Q' I h => (h s H1 C cl fp).run pins s' I⟩) (fun s H1 C cl fp => ⟨fun pins s' σ' H' Q' I h => (h s H1 C cl fp).run pins s' I⟩) hs)
    (hw H0 G H σ t Q k)
theorem LCt.imp {N : Md} {scope : Scope} {own : List (Str × Nat)} {P P' : List β → Prop} (h : LCt X M N elt tg iter ifs scope own Γ S P) (hp : ∀ x, P x → P' x) : LCt X M N elt tg iter ifs scope own Γ S P' := by
  obtain ⟨wi, hi, hc, hN, ok, hs, hw⟩ := h
  exact ⟨wi, hi, hc, hN, ok, hs, fun H0 G H σ t Q k => hw H0 G H σ t Q fun p vs xs G' H' px => k p vs xs G' H' (hp xs px)⟩
/-- name = [..], the list may change -/
theorem s1_setLc {T : Md} {y : Str} {py spos : Pos} {scope : Scope} {own : List (Str × Nat)} {P : List β → Prop} {Po : Post} (i : Nat) (h : LCt X M T elt tg iter ifs scope own Γ S P) (hp : ∀ xs, P xs → Po.nx (Γ.set i (.own S xs))) (hy : X.N[i]? = some y := by rfl) (hyl : X.env.scope.names.lookup y = some .local := by rfl)
    (hsw : swapsWith (.ListComp elt [⟨tg, iter, ifs, 0⟩] scope pos) (some (.Name y py)) spos.line X.env = pure true := by rfl) (hF : M.F = T.F := by first | rfl | assumption) : S1t X M T (.Assign [.Name y py] (.ListComp elt [⟨tg, iter, ifs, 0⟩] scope pos) spos) Γ Po := fun G0 H0 G H σ D t s m => by
  obtain ⟨wi, hi, hc, hN, ok, hs, hw⟩ := h
  exact of_ps (ps_setLc (i := i) (g := gBlk X scope tg) (tt := ttBlk X scope ifs) (te := teBlk X scope elt) hc hN hy hyl hsw hi ok
    (fun s H1 C cl fp => ⟨fun pins s' σ' H' v u Q' I r h => (h s H1 C cl fp).run pins s' u I r⟩) (fun s H1 C cl fp => ⟨fun pins s' σ' H' Q' I h => (h s H1 C cl fp).run pins s' I⟩) (fun s H1 C cl fp => ⟨fun pins s' σ' H' Q' I h => (h s H1 C cl fp).run pins s' I⟩) hs)
    (hw H0 G H σ t _ fun p vs xs G' H' px s' hp' hg hh r => m.nx _ _ G' H' (hp xs px) (t.putOwn2 hF (t.step2 hF s') i hp' (s.fresh hp') hg hh r) (s.trans2 hF s'))
theorem ss_setLcF {M1 T : Md} {y : Str} {py spos : Pos} {scope : Scope} {own : List (Str × Nat)} {P : List β → Prop} {Po : Post} {rest : List Stmt} (i : Nat) (h : LCt X M M1 elt tg iter ifs scope own Γ S P) (hr : ∀ xs, P xs → SSt X M1 T rest (Γ.set i (.own S xs)) Po) (hy : X.N[i]? = some y := by rfl) (hyl : X.env.scope.names.lookup y = some .local := by rfl)
    (hsw : swapsWith (.ListComp elt [⟨tg, iter, ifs, 0⟩] scope pos) (some (.Name y py)) spos.line X.env = pure true := by rfl) (hF : M.F = M1.F := by first | rfl | assumption) : SSt X M T (.Assign [.Name y py] (.ListComp elt [⟨tg, iter, ifs, 0⟩] scope pos) spos :: rest) Γ Po :=
  ss_consG (M1 := M1) (N := fun Γ' => ∃ xs, P xs ∧ Γ' = Γ.set i (.own S xs)) (s1_setLc i h (fun xs px => ⟨xs, px, rfl⟩) hy hyl hsw hF) fun Γ' ⟨xs, px, q⟩ => q ▸ hr xs px
/-- name = [..], a list that stands for ever -/
theorem ss_setLc {M1 T : Md} {y : Str} {py spos : Pos} {scope : Scope} {own : List (Str × Nat)} {P : List β → Prop} {Po : Post} {rest : List Stmt} (i : Nat) (h : LCt X M M1 elt tg iter ifs scope own Γ S P) (hr : ∀ xs, P xs → SSt X M1 T rest (Γ.set i (.val (rLst S) xs)) Po) (hil : i < Γ.length := by first | decide | simp) (hy : X.N[i]? = some y := by rfl) (hyl : X.env.scope.names.lookup y = some .local := by rfl)
    (hsw : swapsWith (.ListComp elt [⟨tg, iter, ifs, 0⟩] scope pos) (some (.Name y py)) spos.line X.env = pure true := by rfl) (hF : M.F = M1.F := by first | rfl | assumption) : SSt X M T (.Assign [.Name y py] (.ListComp elt [⟨tg, iter, ifs, 0⟩] scope pos) spos :: rest) Γ Po :=
  ss_setLcF i h (fun xs px => ss_freeze i (List.getElem?_set_self hil) (by rw [List.set_set]; exact hr xs px)) hy hyl hsw hF
/-- the core: a test that is told, items told by Py; at turn i the mode is Mi i -/
theorem lcT {M0 N : Md} (Mi : Nat → Md) {scope : Scope} {own : List (Str × Nat)} {Py : α → β → Prop} {pb : α → Bool} (hc : X.calm = true) (hN : X.N.Nodup) (it : ITt X M M0 tg iter Γ R P) (ok : BlkOk X.N X.env.scope scope own) (hsl : ∀ j ∈ sl, j ∈ own.map (·.2))
    (hm0 : Mi 0 = M0) (hFi : ∀ i, M.F = (Mi i).F) (hL : ∀ xs, P xs → Le (Mi xs.length) N) (hup : ∀ i, Le (Mi i) (Mi (i + 1)))
    (tgv : ∀ (s : Shared) (H : Hp) (C : Addr) (cl : List (Str × Addr)) (fp : List Addr) (M : Md), TGv (X.blk s H scope (compEnvC scope cl C X.env) fp) M tg R f sl)
    (ht : ∀ (s : Shared) (H : Hp) (C : Addr) (cl : List (Str × Addr)) (fp : List Addr) xs i x, P xs → xs[i]? = some x → TSv (X.blk s H scope (compEnvC scope cl C X.env) fp) (Mi i) ifs (f x (wipeE Γ (own.map (·.2)))) (pb x))
    (he : ∀ (s : Shared) (H : Hp) (C : Addr) (cl : List (Str × Addr)) (fp : List Addr) xs i x, P xs → xs[i]? = some x → pb x = true → EVt (X.blk s H scope (compEnvC scope cl C X.env) fp) (Mi i) (Mi (i + 1)) elt (f x (wipeE Γ (own.map (·.2)))) S (Py x))
    (hs : ∀ x, foldedSetIterable iter X.env x = pure x := by intro _; rfl) : LCt X M N elt tg iter ifs scope own Γ S (fun ys => ∃ xs, P xs ∧ Paired Py (xs.filter pb) ys) := by
  obtain ⟨wi, hi, hw⟩ := it
  subst hm0
  refine ⟨wi, hi, hc, hN, ok, hs, fun H0 G H σ t Q k => hw H0 G H σ t _ fun J xs G1 H1 px hz s1 tw D hD => ?_⟩
  obtain ⟨Gd, Y, g1, wk, _⟩ := tw (Mi 0)
  have wk' : Walk J xs.length Gd (fun i H v H' => J.yld i H v H') := ⟨wk.goes, wk.stops, fun i H x H' _ _ y => y⟩
  have hF0 : ∀ i, (Mi 0).F = (Mi i).F := fun i => (hFi 0).symm.trans (hFi i)
  have hFs : ∀ i, (Mi i).F = (Mi (i + 1)).F := fun i => (hFi i).symm.trans (hFi (i + 1))
  have o1 := s1.okk2 (hFi 0) t.ok
  have t1 := t.step2 (hFi 0) s1
  have dF : ∀ i, D ∉ (Mi i).F := fun i => by rw [← hF0 i]; exact o1.nf hD
  have new := Step.own (u := .lst []) o1 hD (Nat.zero_le _)
  refine lc_it wk' (g := gBlk X scope tg) (tt := ttBlk X scope ifs) (te := teBlk X scope elt) (vs := own.map (·.2)) (σ := σ) (Qd := fun H2 => Q (.ref D) H2) (fun i H2 => ∃ G2 vs ys, Step (Mi i) G1 H1 G2 H2 ∧ H2 D = some (.lst vs) ∧ G2 D = none ∧ Paired (S.rel G2) vs ys ∧ Paired Py ((xs.take i).filter pb) ys ∧ ys.length ≤ i) ⟨G1, [], [], new, upd_same, o1.gnone hD, .nil, .nil, Nat.le_refl _⟩
    (fun i H2 _ ⟨G2, _, _, s2, _⟩ => g1 G2 H2 s2.g s2.gh) (fun i v H2 H3 hi hPv hy => ?_) fun H2 ⟨G2, vs, ys, s2, h2, gD, r2, py, _⟩ => ?_
  · obtain ⟨G2, vs, ys, s2, h2, gD, r2, py, hlen⟩ := hPv
    obtain ⟨Gd', Y', g1', wk2, g2⟩ := tw (Mi i)
    have o2 := s2.okk2 (hF0 i) o1
    obtain ⟨G3, x, hx, s3, r3⟩ := g2 i H2 v H3 G2 s2.g o2 (wk2.yields i H2 v H3 hi (g1' G2 H2 s2.g s2.gh) hy)
    have S3 := s2.trans s3
    have hxm : x ∈ xs := List.mem_of_getElem? hx
    have nD : H2 D ≠ none := by rw [h2]; exact fun z => nomatch z
    intro s0 H00 C cl fp
    refine tgv s0 H00 C cl fp (Mi i) H0 G3 H3 (L2.wipe σ (own.map (·.2))) (wipeE Γ (own.map (·.2))) v x ((t1.step2 (hF0 i) S3).wipe _) r3 _ ?_
    intro σ4 t4 hl4 ha4
    refine And.intro ?_ ?_
    rotate_left
    intro s0 H00 C cl fp
    rotate_left
    · rw [wipe_eq (τ := L2.wipe σ (own.map (·.2))) hl4 fun j hj => ha4 j fun z => hj (hsl j z)]
      exact wipe_eq (wipe_length _ _) fun j hj => wipe_at hj
    · refine ht s0 H00 C cl fp xs i x px hx H0 G3 H3 σ4 t4 _ fun G5 H5 s5 => ?_
      have fl : (xs.take (i + 1)).filter pb = (xs.take i).filter pb ++ (if pb x = true then [x] else []) := by
        rw [List.take_add_one, hx, List.filter_append]
        cases hb : pb x <;> simp [hb]
      cases hb : pb x with
      | false =>
        rw [if_neg Bool.false_ne_true]
        rw [hb, if_neg Bool.false_ne_true, List.append_nil] at fl
        exact ⟨G5, vs, ys, (S3.trans s5).le (hup i), (s3.trans s5).h D _ (dF i) h2, (s3.trans s5).nw D nD gD, S.pmono (s3.trans s5).g r2, by rw [fl]; exact py, by omega⟩
      | true =>
        rw [if_pos rfl]
        rw [hb, if_pos rfl] at fl
        intro s0 H00 C cl fp
        refine he s0 H00 C cl fp xs i x px hx hb H0 G5 H5 σ4 (t4.step s5) _ fun w y G6 H6 hy s6 r6 => ?_
        have s356 := (s3.trans s5).trans2 (hFs i) s6
        have S6 := s2.trans2 (hFs i) s356
        have g6 : G6 D = none := s356.nw D nD gD
        have hvl : vs.length = ys.length := paired_len r2
        rw [sizeLine_eq] at hz
        have hz' : (vs ++ [w]).length ≤ sizeLine := by rw [List.length_append, sizeLine_eq]; simp; omega
        exact ⟨vs, s356.h D _ (dF (i + 1)) h2, by rw [sizeLine_eq]; omega, G6, vs ++ [w], ys ++ [y], S6.chg (S6.okk2 (hF0 (i + 1)) o1) g6 (dF (i + 1)) hD hz' (notExtL (s356.h D _ (dF (i + 1)) h2)), upd_same, g6, Paired.snoc (S.pmono s356.g r2) r6, by rw [fl]; exact Paired.snoc py hy, by simp; omega⟩
  · rw [List.take_length] at py
    exact k D vs ys G2 H2 ⟨xs, px, py⟩ ((s1.trans2 (hF0 xs.length) s2).le (hL xs px)) (s1.fresh hD) gD h2 r2
theorem ef_lcT {M0 N : Md} (Mi : Nat → Md) {scope : Scope} {own : List (Str × Nat)} {Py : α → β → Prop} {pb : α → Bool} (hc : X.calm = true) (hN : X.N.Nodup) (it : ITt X M M0 tg iter Γ R P) (ok : BlkOk X.N X.env.scope scope own) (hsl : ∀ j ∈ sl, j ∈ own.map (·.2))
    (hm0 : Mi 0 = M0) (hFi : ∀ i, M.F = (Mi i).F) (hL : ∀ xs, P xs → Le (Mi xs.length) N) (hup : ∀ i, Le (Mi i) (Mi (i + 1)))
    (tgv : ∀ (s : Shared) (H : Hp) (C : Addr) (cl : List (Str × Addr)) (fp : List Addr) (M : Md), TGv (X.blk s H scope (compEnvC scope cl C X.env) fp) M tg R f sl)
    (ht : ∀ (s : Shared) (H : Hp) (C : Addr) (cl : List (Str × Addr)) (fp : List Addr) xs i x, P xs → xs[i]? = some x → TSv (X.blk s H scope (compEnvC scope cl C X.env) fp) (Mi i) ifs (f x (wipeE Γ (own.map (·.2)))) (pb x))
    (he : ∀ (s : Shared) (H : Hp) (C : Addr) (cl : List (Str × Addr)) (fp : List Addr) xs i x, P xs → xs[i]? = some x → pb x = true → EVt (X.blk s H scope (compEnvC scope cl C X.env) fp) (Mi i) (Mi (i + 1)) elt (f x (wipeE Γ (own.map (·.2)))) S (Py x))
    (hs : ∀ x, foldedSetIterable iter X.env x = pure x := by intro _; rfl) : EFt X M N (.ListComp elt [⟨tg, iter, ifs, 0⟩] scope pos) Γ S (fun ys => ∃ xs, P xs ∧ Paired Py (xs.filter pb) ys) := (lcT Mi hc hN it ok hsl hm0 hFi hL hup tgv ht he hs).ef
theorem ef_lcP {scope : Scope} {own : List (Str × Nat)} {Py : α → β → Prop} {pb : α → Bool} (hc : X.calm = true) (hN : X.N.Nodup) (it : ITp X M tg iter Γ R P) (ok : BlkOk X.N X.env.scope scope own) (hsl : ∀ j ∈ sl, j ∈ own.map (·.2))
    (tgv : ∀ (s : Shared) (H : Hp) (C : Addr) (cl : List (Str × Addr)) (fp : List Addr) (M : Md), TGv (X.blk s H scope (compEnvC scope cl C X.env) fp) M tg R f sl)
    (ht : ∀ (s : Shared) (H : Hp) (C : Addr) (cl : List (Str × Addr)) (fp : List Addr) xs x, P xs → x ∈ xs → TSv (X.blk s H scope (compEnvC scope cl C X.env) fp) M ifs (f x (wipeE Γ (own.map (·.2)))) (pb x))
    (he : ∀ (s : Shared) (H : Hp) (C : Addr) (cl : List (Str × Addr)) (fp : List Addr) xs x, P xs → x ∈ xs → pb x = true → EVp (X.blk s H scope (compEnvC scope cl C X.env) fp) M elt (f x (wipeE Γ (own.map (·.2)))) S (Py x))
    (hs : ∀ x, foldedSetIterable iter X.env x = pure x := by intro _; rfl) : EFp X M (.ListComp elt [⟨tg, iter, ifs, 0⟩] scope pos) Γ S (fun ys => ∃ xs, P xs ∧ Paired Py (xs.filter pb) ys) :=
  ef_lcT (fun _ => M) hc hN it ok hsl rfl (fun _ => rfl) (fun _ _ => Le.refl _) (fun _ => Le.refl _) tgv (fun s H C cl fp xs i x px hx => ht s H C cl fp xs x px (List.mem_of_getElem? hx)) (fun s H C cl fp xs i x px hx => he s H C cl fp xs x px (List.mem_of_getElem? hx)) hs
theorem paired_map {g : α → β} : ∀ {l : List α} {m : List β}, Paired (fun x y => y = g x) l m → m = l.map g
  | _, _, .nil => rfl
  | _, _, .cons h t => by rw [h, paired_map t]; rfl
theorem ef_lc {scope : Scope} {own : List (Str × Nat)} {pb : α → Bool} {g : α → β} (hc : X.calm = true) (hN : X.N.Nodup) (it : ITv X M tg iter Γ R xs) (ok : BlkOk X.N X.env.scope scope own) (hsl : ∀ j ∈ sl, j ∈ own.map (·.2))
    (tgv : ∀ (s : Shared) (H : Hp) (C : Addr) (cl : List (Str × Addr)) (fp : List Addr) (M : Md), TGv (X.blk s H scope (compEnvC scope cl C X.env) fp) M tg R f sl)
    (ht : ∀ (s : Shared) (H : Hp) (C : Addr) (cl : List (Str × Addr)) (fp : List Addr) x, x ∈ xs → TSv (X.blk s H scope (compEnvC scope cl C X.env) fp) M ifs (f x (wipeE Γ (own.map (·.2)))) (pb x))
    (he : ∀ (s : Shared) (H : Hp) (C : Addr) (cl : List (Str × Addr)) (fp : List Addr) x, x ∈ xs → pb x = true → EV (X.blk s H scope (compEnvC scope cl C X.env) fp) M elt (f x (wipeE Γ (own.map (·.2)))) S (g x))
    (hs : ∀ x, foldedSetIterable iter X.env x = pure x := by intro _; rfl) : EF X M (.ListComp elt [⟨tg, iter, ifs, 0⟩] scope pos) Γ S ((xs.filter pb).map g) := fun H0 G H σ t Q k =>
  ef_lcP (Py := fun x y => y = g x) hc hN it ok hsl tgv (fun s H C cl fp ys x e hx => ht s H C cl fp x (e ▸ hx)) (fun s H C cl fp ys x e hx => he s H C cl fp x (e ▸ hx)) hs H0 G H σ t Q fun p vs ys G' H' ⟨zs, e1, e2⟩ s h1 h2 h3 r => k p vs ys G' H' (by rw [paired_map e2, e1]) s h1 h2 h3 r
theorem filter_yes {xs : List α} : xs.filter (fun _ => true) = xs := by simp
/-- without a test -/
theorem ef_lc0 {scope : Scope} {own : List (Str × Nat)} {g : α → β} (hc : X.calm = true) (hN : X.N.Nodup) (it : ITv X M tg iter Γ R xs) (ok : BlkOk X.N X.env.scope scope own) (hsl : ∀ j ∈ sl, j ∈ own.map (·.2))
    (tgv : ∀ (s : Shared) (H : Hp) (C : Addr) (cl : List (Str × Addr)) (fp : List Addr) (M : Md), TGv (X.blk s H scope (compEnvC scope cl C X.env) fp) M tg R f sl)
    (he : ∀ (s : Shared) (H : Hp) (C : Addr) (cl : List (Str × Addr)) (fp : List Addr) x, x ∈ xs → EV (X.blk s H scope (compEnvC scope cl C X.env) fp) M elt (f x (wipeE Γ (own.map (·.2)))) S (g x))
    (hs : ∀ x, foldedSetIterable iter X.env x = pure x := by intro _; rfl) : EF X M (.ListComp elt [⟨tg, iter, [], 0⟩] scope pos) Γ S (xs.map g) := fun H0 G H σ t Q k =>
  ef_lc (pb := fun _ => true) hc hN it ok hsl tgv (fun _ _ _ _ _ _ _ => ts_nil) (fun s H C cl fp x hx _ => he s H C cl fp x hx) hs H0 G H σ t Q fun p vs ys G' H' e => k p vs ys G' H' (by rw [e, filter_yes])
/-- without a test, items told by Py -/
theorem ef_lcQ {scope : Scope} {own : List (Str × Nat)} {Py : α → β → Prop} (hc : X.calm = true) (hN : X.N.Nodup) (it : ITp X M tg iter Γ R P) (ok : BlkOk X.N X.env.scope scope own) (hsl : ∀ j ∈ sl, j ∈ own.map (·.2))
    (tgv : ∀ (s : Shared) (H : Hp) (C : Addr) (cl : List (Str × Addr)) (fp : List Addr) (M : Md), TGv (X.blk s H scope (compEnvC scope cl C X.env) fp) M tg R f sl)
    (he : ∀ (s : Shared) (H : Hp) (C : Addr) (cl : List (Str × Addr)) (fp : List Addr) xs x, P xs → x ∈ xs → EVp (X.blk s H scope (compEnvC scope cl C X.env) fp) M elt (f x (wipeE Γ (own.map (·.2)))) S (Py x))
    (hs : ∀ x, foldedSetIterable iter X.env x = pure x := by intro _; rfl) : EFp X M (.ListComp elt [⟨tg, iter, [], 0⟩] scope pos) Γ S (fun ys => ∃ xs, P xs ∧ Paired Py xs ys) := fun H0 G H σ t Q k =>
  ef_lcP (pb := fun _ => true) hc hN it ok hsl tgv (fun _ _ _ _ _ _ _ _ _ => ts_nil) (fun s H C cl fp xs x px hx _ => he s H C cl fp xs x px hx) hs H0 G H σ t Q fun p vs ys G' H' ⟨zs, e1, e2⟩ => k p vs ys G' H' ⟨zs, e1, by rw [filter_yes] at e2; exact e2⟩
theorem lc_ {scope : Scope} {own : List (Str × Nat)} {pb : α → Bool} {g : α → β} (hc : X.calm = true) (hN : X.N.Nodup) (it : ITv X M tg iter Γ R xs) (ok : BlkOk X.N X.env.scope scope own) (hsl : ∀ j ∈ sl, j ∈ own.map (·.2))
    (tgv : ∀ (s : Shared) (H : Hp) (C : Addr) (cl : List (Str × Addr)) (fp : List Addr) (M : Md), TGv (X.blk s H scope (compEnvC scope cl C X.env) fp) M tg R f sl)
    (ht : ∀ (s : Shared) (H : Hp) (C : Addr) (cl : List (Str × Addr)) (fp : List Addr) x, x ∈ xs → TSv (X.blk s H scope (compEnvC scope cl C X.env) fp) M ifs (f x (wipeE Γ (own.map (·.2)))) (pb x))
    (he : ∀ (s : Shared) (H : Hp) (C : Addr) (cl : List (Str × Addr)) (fp : List Addr) x, x ∈ xs → pb x = true → EV (X.blk s H scope (compEnvC scope cl C X.env) fp) M elt (f x (wipeE Γ (own.map (·.2)))) S (g x))
    (hs : ∀ x, foldedSetIterable iter X.env x = pure x := by intro _; rfl) : LCt X M M elt tg iter ifs scope own Γ S (fun y => y = (xs.filter pb).map g) :=
  (lcT (Py := fun x y => y = g x) (fun _ => M) hc hN it ok hsl rfl (fun _ => rfl) (fun _ _ => Le.refl _) (fun _ => Le.refl _) tgv (fun s H C cl fp ys i x e hx => ht s H C cl fp x (e ▸ List.mem_of_getElem? hx)) (fun s H C cl fp ys i x e hx => he s H C cl fp x (e ▸ List.mem_of_getElem? hx)) hs).imp fun ys ⟨zs, e1, e2⟩ => by rw [paired_map e2, e1]
theorem lc_0 {scope : Scope} {own : List (Str × Nat)} {g : α → β} (hc : X.calm = true) (hN : X.N.Nodup) (it : ITv X M tg iter Γ R xs) (ok : BlkOk X.N X.env.scope scope own) (hsl : ∀ j ∈ sl, j ∈ own.map (·.2))
    (tgv : ∀ (s : Shared) (H : Hp) (C : Addr) (cl : List (Str × Addr)) (fp : List Addr) (M : Md), TGv (X.blk s H scope (compEnvC scope cl C X.env) fp) M tg R f sl)
    (he : ∀ (s : Shared) (H : Hp) (C : Addr) (cl : List (Str × Addr)) (fp : List Addr) x, x ∈ xs → EV (X.blk s H scope (compEnvC scope cl C X.env) fp) M elt (f x (wipeE Γ (own.map (·.2)))) S (g x))
    (hs : ∀ x, foldedSetIterable iter X.env x = pure x := by intro _; rfl) : LCt X M M elt tg iter [] scope own Γ S (fun y => y = xs.map g) :=
  (lc_ (pb := fun _ => true) hc hN it ok hsl tgv (fun _ _ _ _ _ _ _ => ts_nil) (fun s H C cl fp x hx _ => he s H C cl fp x hx) hs).imp fun ys e => by rw [e, filter_yes]
end
end RT

/-! RT5: instances, properties, methods, classes made; keyword calls, star parameters; defs that know of no guards around. -/
namespace RT
open PySem L2
open PyProof.Rows (envOfC)
/-! ### attributes of an instance -/
theorem fs_look {G : Hp} : ∀ {vs : List (Str × V)} {fs : List (Str × Fe)} {f : Str} {q : Fe}, FsOk G vs fs → fs.lookup f = some q → ∃ v, vs.lookup f = some v ∧ FeOk G v q
  | [], [], _, _, _, h => by simp at h
  | [], _ :: _, _, _, h, _ => by have := h.1; simp at this
  | _ :: _, [], _, _, h, _ => by have := h.1; simp at this
  | (k, v) :: vs, (k', e) :: fs, f, q, h, hl => by
    have hk : k = k' ∧ vs.map (·.1) = fs.map (·.1) := by have := h.1; simpa using this
    obtain ⟨rfl, ht⟩ := hk
    rw [List.lookup_cons] at hl ⊢
    by_cases e1 : (f == k) = true
    · rw [e1] at hl ⊢
      cases hl
      exact ⟨v, rfl, h.2 0 (k, v) (k, e) rfl rfl⟩
    · have e1 : (f == k) = false := by simpa using e1
      rw [e1] at hl ⊢
      exact fs_look ⟨ht, fun i p q h1 h2 => h.2 (i + 1) p q (by simpa using h1) (by simpa using h2)⟩ hl
theorem fs_none {G : Hp} : ∀ {vs : List (Str × V)} {fs : List (Str × Fe)} {f : Str}, FsOk G vs fs → fs.lookup f = none → vs.lookup f = none
  | [], [], _, _, _ => rfl
  | [], _ :: _, _, h, _ => by have := h.1; simp at this
  | _ :: _, [], _, h, _ => by have := h.1; simp at this
  | (k, v) :: vs, (k', e) :: fs, f, h, hl => by
    have hk : k = k' ∧ vs.map (·.1) = fs.map (·.1) := by have := h.1; simpa using this
    obtain ⟨rfl, ht⟩ := hk
    rw [List.lookup_cons] at hl ⊢
    by_cases e1 : (f == k) = true
    · rw [e1] at hl; cases hl
    · have e1 : (f == k) = false := by simpa using e1
      rw [e1] at hl ⊢
      exact fs_none ⟨ht, fun i p q h1 h2 => h.2 (i + 1) p q (by simpa using h1) (by simpa using h2)⟩ hl
/-- an instance of the class at C whose attributes are told by φ x -/
def rObj {α : Type} (C : Addr) (φ : α → List (Str × Fe)) : Rp α := ⟨fun G v x => ∃ a dx vs, v = .ref a ∧ G a = some (.ins C dx vs) ∧ FsOk G vs (φ x), fun e ⟨a, dx, vs, h1, h2, h3⟩ => ⟨a, dx, vs, h1, e _ _ h2, h3.mono e⟩⟩
section
variable {X : Cx} {M : Md} {Γ : List Ent} {e o : Expr} {α β γ : Type} {R : Rp α} {S : Rp β} {T : Rp γ} {x : α} {y : β} {z : γ} {P : α → Prop} {P2 : β → Prop} {pos p : Pos} {es : List Expr} {as : List Ent} {A : List Ent → Prop} {nm f m : Str} {C g fa : Addr} {φ : α → List (Str × Fe)} {k : Nat} {fd : FuncData} {ps : List Str} {Ct : Ctr}
theorem ev_fld (ha : EV X M e Γ (rObj C φ) x) (c : Cls X.K C) (n : NoAttr X.K C f) (h : (φ x).lookup f = some (.mk S y)) (hb : attributeBase e f X.env (eval e X.env) = eval e X.env := by rfl) : EV X M (.Attribute e f pos) Γ S y := fun H0 G H σ t Q k =>
  of_pe (pe_fld pe_of hb) (ha H0 G H σ t _ fun v x' G' H' ex s r => by
    subst ex
    obtain ⟨a, dx, vs, rfl, h2, h3⟩ := r
    obtain ⟨w, h4, h5⟩ := fs_look h3 h
    exact ⟨a, C, dx, vs, w, rfl, s.gh _ _ h2, c, n, h4, k w y G' H' rfl s h5⟩)
/-- of an object that is being made -/
theorem ev_fldO {a : Addr} {fs : List (Str × Fe)} (i : Nat) (h : Γ[i]? = some (.obj a C fs)) (c : Cls X.K C) (n : NoAttr X.K C f) (hf : fs.lookup f = some (.mk S y)) {np : Pos} (hN : X.N[i]? = some nm := by rfl) (hv : Vis X.env.scope nm := by first | exact Or.inl rfl | exact Or.inr (Or.inl rfl) | exact Or.inr (Or.inr rfl)) (hd : (nm == ("__debug__" : Str)) = false := by decide)
    (hcd : (nm == ("__classdict__" : Str)) = false := by decide) (hb : attributeBase (.Name nm np) f X.env (eval (.Name nm np) X.env) = eval (.Name nm np) X.env := by rfl) : EV X M (.Attribute (.Name nm np) f pos) Γ S y := fun H0 G H σ t Q k => by
  obtain ⟨dx, vs, h1, h2, h3, h4, h5, h6, h7, h8, h9, h10, h11⟩ := t.ent i _ h
  obtain ⟨w, q1, q2⟩ := fs_look h11 hf
  exact of_pe (pe_fld (pe_var hN hv hd hcd) hb) ⟨_, h1, a, C, dx, vs, w, rfl, h2, c, n, q1, k w y G H rfl (Step.refl t.ok) q2⟩
/-- a property as its readers know it -/
structure PrpC (P0 : Program) (w0 : World) (K0 : PySem.W.Frag) (mg0 : Str → Option Value) (base0 : Heap) (C : Addr) (f : Str) (k : Nat) (fd : FuncData) (ps : List Str) (Ct : Ctr) : Prop where
  ex : ∃ p g, PropOf K0 C f p g ∧ FnOk P0 w0 K0 mg0 base0 CX0 k g fd ps (spC Ct)
  bd : Binds K0 fd ps []
abbrev Prp (X : Cx) (C : Addr) (f : Str) (k : Nat) (fd : FuncData) (ps : List Str) (Ct : Ctr) : Prop := PrpC X.prog X.w X.K X.mg X.base C f k fd ps Ct
theorem argsOk1 {G : Hp} {v : V} {e : Ent} (h : ArgOk G v e) : ArgsOk G [v] [e] := argsOk_cons h argsOk_nil
theorem ev_prop (ha : EV X M e Γ (rObj C φ) x) (c : Cls X.K C) (D : Prp X C f k fd ps Ct) (hr : Room (k + 1) X.A) (hc : Ct M [.val (rObj C φ) x] (fun u => u = .val S y)) (hb : attributeBase e f X.env (eval e X.env) = eval e X.env := by rfl) : EV X M (.Attribute e f pos) Γ S y := fun H0 G H σ t Q k' => by
  obtain ⟨p, g, hp, F⟩ := D.ex
  refine of_pe (pe_prop pe_of c hp F hr D.bd .nil pass0 hb) (ha H0 G H σ t _ fun v x' G' H' ex s r => ?_)
  subst ex
  obtain ⟨a, dx, vs, rfl, h2, h3⟩ := id r
  refine ⟨a, dx, vs, rfl, s.gh _ _ h2, ?_⟩
  exact spC_use (vs := [.ref a]) (P := fun q => q = y) hc (s.okk t.ok) (argsOk1 r) (fun u hu => ⟨y, rfl, hu⟩) fun v z G1 H1 e1 s1 r1 => k' v z G1 H1 e1 (s.trans s1) r1
/-- a method as its callers know it -/
structure MthC (P0 : Program) (w0 : World) (K0 : PySem.W.Frag) (mg0 : Str → Option Value) (base0 : Heap) (C : Addr) (m : Str) (k : Nat) (fd : FuncData) (ps : List Str) (Ct : Ctr) : Prop where
  ex : ∃ g, Meth K0 C m g ∧ FnOk P0 w0 K0 mg0 base0 CX0 k g fd ps (spC Ct)
  bd : Binds K0 fd ps []
abbrev Mth (X : Cx) (C : Addr) (m : Str) (k : Nat) (fd : FuncData) (ps : List Str) (Ct : Ctr) : Prop := MthC X.prog X.w X.K X.mg X.base C m k fd ps Ct
theorem ev_methP {pl : Sem Bool} {apos : Pos} (ha : EV X M o Γ (rObj C φ) x) (c : Cls X.K C) (D : Mth X C m k fd ps Ct) (hr : Room k X.A) (hn : (φ x).lookup m = none) (hes : EAp X M (e :: es) Γ A) (hc : ∀ as, A as → ∃ res, Ct M (.val (rObj C φ) x :: as) res ∧ ∀ u, res u → ∃ y, P2 y ∧ u = .val S y)
    (hst : starEach (e :: es) X.env = (false, eval e X.env) :: starEach es X.env := by rfl) (hpl : (backTo pos (starEach es X.env)).any (·.1) = false := by rfl)
    (ht : eval (.Call (.Attribute o m apos) (e :: es) [] pos) X.env = (do
      let ov ← eval o X.env
      standAt apos.atName
      let (f, first) ← holding [ov] (getMethod ov m pl)
      callWith pos f first (backTo pos (starEach (e :: es) X.env)) (backToKw pos (keywordEach [] X.env))) := by rfl) : EVp X M (.Call (.Attribute o m apos) (e :: es) [] pos) Γ S P2 := fun H0 G H σ t Q k' => by
  obtain ⟨g, hm, F⟩ := D.ex
  refine of_pe (pe_meth pe_of c hm F hr D.bd .nil pass0 pa_of hst hpl ht) (ha H0 G H σ t _ fun v x' G' H' ex s r => ?_)
  subst ex
  obtain ⟨a, dx, vs, rfl, h2, h3⟩ := id r
  refine ⟨a, dx, vs, rfl, s.gh _ _ h2, fs_none h3 hn, hes H0 G' H' σ (t.step s) _ fun ws as G2 H2 hA s2 ar => ?_⟩
  obtain ⟨res, h4, h5⟩ := hc as hA
  exact spC_use (vs := .ref a :: ws) h4 (s2.okk (s.okk t.ok)) (argsOk_cons ((rObj C φ).mono s2.g r) ar) h5 fun v z G1 H1 e1 s1 r1 => k' v z G1 H1 e1 ((s.trans s2).trans s1) r1
theorem ev_meth {pl : Sem Bool} {apos : Pos} (ha : EV X M o Γ (rObj C φ) x) (c : Cls X.K C) (D : Mth X C m k fd ps Ct) (hr : Room k X.A) (hn : (φ x).lookup m = none) (hes : EA X M (e :: es) Γ as) (hc : Ct M (.val (rObj C φ) x :: as) (fun u => u = .val S y))
    (hst : starEach (e :: es) X.env = (false, eval e X.env) :: starEach es X.env := by rfl) (hpl : (backTo pos (starEach es X.env)).any (·.1) = false := by rfl)
    (ht : eval (.Call (.Attribute o m apos) (e :: es) [] pos) X.env = (do
      let ov ← eval o X.env
      standAt apos.atName
      let (f, first) ← holding [ov] (getMethod ov m pl)
      callWith pos f first (backTo pos (starEach (e :: es) X.env)) (backToKw pos (keywordEach [] X.env))) := by rfl) : EV X M (.Call (.Attribute o m apos) (e :: es) [] pos) Γ S y :=
  ev_methP ha c D hr hn hes (fun as' h => ⟨_, by rw [h]; exact hc, fun u hu => ⟨y, rfl, hu⟩⟩) hst hpl ht

/-! ### a class is made -/
/-- what __init__ promises of its arguments (all but self): the instance is told so -/
abbrev Cti (α : Type) := Md → List Ent → (α → Prop) → Prop
def spI (C : Addr) (φ : α → List (Str × Fe)) (Ci : Cti α) : Sp := fun vs H Q _ => ∃ (M : Md) (G H1 : Hp) (x dx : Addr) (ws : List V) (as : List Ent) (Py : α → Prop), vs = .ref x :: ws ∧ H1 x = none ∧ H1 dx = none ∧ dx ≠ x ∧ H = upd (upd H1 dx (.own x)) x (.ins C dx []) ∧ Okk M G H1 ∧ ArgsOk G ws as ∧ Ci M as Py ∧
  ∀ y G' H', Py y → Step M G H1 G' H' → (rObj C φ).rel G' (.ref x) y → Q .non H'
structure MkrC (P0 : Program) (w0 : World) (K0 : PySem.W.Frag) (mg0 : Str → Option Value) (base0 : Heap) (nm : Str) (C : Addr) (k : Nat) (fd : FuncData) (ps : List Str) (φ : α → List (Str × Fe)) (Ci : Cti α) : Prop where
  ex : ∃ fi, Mk K0 C fi ∧ FnOk P0 w0 K0 mg0 base0 CX0 k fi fd ps (spI C φ Ci)
  mg : mg0 nm = some (.ref C)
  bd : Binds K0 fd ps []
abbrev Mkr (X : Cx) (nm : Str) (C : Addr) (k : Nat) (fd : FuncData) (ps : List Str) (φ : α → List (Str × Fe)) (Ci : Cti α) : Prop := MkrC X.prog X.w X.K X.mg X.base nm C k fd ps φ Ci
theorem ev_makeP {Ci : Cti α} {Py : α → Prop} (D : Mkr X nm C k fd ps φ Ci) (hr : Room (k + 1) X.A) (hes : EAp X M (e :: es) Γ A) (hc : ∀ as, A as → Ci M as Py) (hg : Gl X nm := by rfl) (hdb : (nm == ("__debug__" : Str)) = false := by decide) (he : starEach (e :: es) X.env = (false, eval e X.env) :: starEach es X.env := by rfl) (hpl : (backTo pos (starEach es X.env)).any (·.1) = false := by rfl) :
    EVp X M (.Call (.Name nm p) (e :: es) [] pos) Γ (rObj C φ) Py := fun H0 G H σ t Q k' => by
  obtain ⟨fi, Mk', F⟩ := D.ex
  refine of_pe (pe_make Mk' F hr hg D.mg D.bd .nil pass0 pa_of hdb he hpl) (hes H0 G H σ t _ fun vs as G' H' hA s ar => ?_)
  intro x dx nx ndx nex
  refine ⟨M, G', H', x, dx, vs, as, Py, by rw [List.append_nil], nx, ndx, nex, rfl, s.okk t.ok, ar, hc as hA, fun y G2 H2 py s2 r2 => ⟨rfl, k' _ y G2 H2 py (s.trans s2) r2⟩⟩
section
variable {P : Program} {w : World} {K : PySem.W.Frag} {mg : Str → Option Value} {base : Heap}
/-- THE RULE for __init__ -/
theorem fn_init {qual : Str} {st : Stmt} {fi : Addr} {N pr : List Str} {Ci : Cti α} (F : Fun K "__init__" qual st fi fd) (S : FnScope N ("self" :: pr) (defScope st)) (hl : ∀ M as Py, Ci M as Py → as.length = pr.length)
    (hbody : ∀ (cdv : Value) (A : Around) (outer : List Env) (s : Shared) (H : Hp) (E : XK), Room k (A.deeper (envOfC qual (defScope st) s.heap.objs.size fi cdv)) → ∀ (x : Addr) M as Py, Ci M as Py →
      SS (cxOf CX0 P w K mg base N qual (defScope st) fi cdv A outer s H E).nox M (defBody st) (.obj x C [] :: (as ++ List.replicate (N.length - (pr.length + 1)) Ent.any)) { nx := fun Γ => ∃ y fs Γ', Py y ∧ fs = φ y ∧ Γ = .obj x C fs :: Γ' }) : FnOk P w K mg base CX0 (k + 1) fi fd ("self" :: pr) (spI C φ Ci) := by
  have hN : pr.length + 1 ≤ N.length := by have := congrArg List.length S.pre; rw [List.length_take] at this; simp at this; omega
  refine F.ok S (fun vs H Q E ⟨M, G, H1, x, dx, ws, as, Py, e1, _, _, _, _, _, ar, hc, _⟩ => by rw [e1]; simp [ar.1, hl M as Py hc]) fun cdv A outer s H vs Q E hr ⟨M, G, H1, x, dx, ws, as, Py, e1, nx, ndx, nex, eH, o, ar, hc, hq⟩ => ⟨sOf _ _, pss_of, ?_⟩
  subst e1 eH
  have hal := hl M as Py hc
  have s1 := Step.own (u := .own x) o ndx trivial
  have nx' : upd H1 dx (.own x) x = none := by rw [upd_ne (Ne.symm nex)]; exact nx
  have s2 := Step.own (u := .ins C dx []) (s1.okk o) nx' trivial
  have s12 := s1.trans s2
  have t0 := stt_start (M := M) (G := G) (H := upd (upd H1 dx (.own x)) x (.ins C dx [])) (N := N) (vs := .ref x :: ws) (as := .any :: as) (s12.okk o) (argsOk_cons trivial ar) (by simp [hal]; omega)
  have hst : L2.start N (.ref x :: ws) = some (.ref x) :: (ws.map some ++ List.replicate (N.length - (ws.length + 1)) none) := by unfold L2.start; simp
  have t : Stt M H1 (.obj x C [] :: (as ++ List.replicate (N.length - (pr.length + 1)) Ent.any)) (L2.start N (.ref x :: ws)) G (upd (upd H1 dx (.own x)) x (.ins C dx [])) := by
    refine ⟨t0.ok, by have := t0.len; simp [hal] at this ⊢; omega, fun i e h => ?_, fun i j a hij o1 o2 => ?_⟩
    · cases i with
      | zero =>
        have e2 : Ent.obj x C [] = e := by simpa using h
        subst e2
        rw [hst]
        exact ⟨dx, [], rfl, upd_same, by rw [upd_ne nex, upd_same], nex, o.gnone nx, o.gnone ndx, o.nf nx, o.nf ndx, nx, ndx, ⟨rfl, fun i p q h => by simp at h⟩⟩
      | succ n =>
        have z := t0.ent (n + 1) e (by simpa [hal] using h)
        cases e with
        | any => trivial
        | val R' x' => exact z
        | adr a => exact z
        | own R' xs' =>
          obtain ⟨b, ws', q1, q2, q3, q4, q5, q6⟩ := z
          exact absurd q5 (by rw [q2]; exact fun z => nomatch z)
        | own2 U =>
          obtain ⟨b, ws', q1, q2, q3, q4, q5, q6⟩ := z
          exact absurd q5 (by rw [q2]; exact fun z => nomatch z)
        | obj b C' fs' =>
          obtain ⟨dy, ws', q1, q2, q3, q4, q5, q6, q7, q8, q9, q10⟩ := z
          exact absurd q9 (by rw [q2]; exact fun z => nomatch z)
    · have no : ∀ n, IsOwn (Ent.obj x C [] :: (as ++ List.replicate (N.length - (pr.length + 1)) Ent.any))[n + 1]? → False := fun n hn => by
        have : IsOwn (Ent.any :: as ++ List.replicate (N.length - (Ent.any :: as).length) Ent.any)[n + 1]? := by simpa [hal] using hn
        cases e : (Ent.any :: as ++ List.replicate (N.length - (Ent.any :: as).length) Ent.any)[n + 1]? with
        | none => rw [e] at this; exact this
        | some u =>
          rw [e] at this
          have z := t0.ent (n + 1) u e
          cases u with
          | own R' xs' => obtain ⟨b, ws', q1, q2, q3, q4, q5, q6⟩ := z; rw [q2] at q5; cases q5
          | own2 U => obtain ⟨b, ws', q1, q2, q3, q4, q5, q6⟩ := z; rw [q2] at q5; cases q5
          | obj b C' fs' => obtain ⟨dy, ws', q1, q2, q3, q4, q5, q6, q7, q8, q9, q10⟩ := z; rw [q2] at q9; cases q9
          | any => exact this
          | val _ _ => exact this
          | adr _ => exact this
      cases i with
      | zero =>
        cases j with
        | zero => exact absurd rfl hij
        | succ n => exact (no n o2).elim
      | succ n => exact (no n o1).elim
  refine hbody cdv A outer s _ E hr x M as Py hc G H1 G _ _ _ t s12 ⟨fun Γ σ G' H' ⟨y, fs, Γ', py, efs, eΓ⟩ t' s' => ?_, fun R v x' G' H' z => z.elim, fun _ _ _ _ z => z.elim, fun _ _ _ _ z => z.elim⟩
  subst eΓ
  obtain ⟨dy, vs', q1, q2, q3, q4, q5, q6, q7, q8, q9, q10, q11⟩ := t'.ent 0 _ rfl
  have g1 : Same G' (upd G' x (.ins C dy vs')) := same_upd q5
  have g2 : Same (upd G' x (.ins C dy vs')) (upd (upd G' x (.ins C dy vs')) dy (.own x)) := same_upd (by rw [upd_ne q4]; exact q6)
  have gh : Same (upd (upd G' x (.ins C dy vs')) dy (.own x)) H' := fun b u e => by
    by_cases hb : b = dy
    · subst hb; rw [upd_same] at e; cases e; exact q3
    · rw [upd_ne hb] at e
      by_cases hb2 : b = x
      · subst hb2; rw [upd_same] at e; cases e; exact q2
      · rw [upd_ne hb2] at e; exact t'.ok.gh b u e
  refine hq y (upd (upd G' x (.ins C dy vs')) dy (.own x)) H' py ⟨(s'.g.trans g1).trans g2, gh, s'.sz, s'.h, fun b hb e => ?_, M.up s'.i (g1.trans g2) gh (fun _ _ => rfl) (fun _ _ z => z), s'.f⟩ ⟨x, dy, vs', rfl, by rw [upd_ne (Ne.symm q4), upd_same], ?_⟩
  · rw [upd_ne fun z => hb (by rw [z]; exact q10), upd_ne fun z => hb (by rw [z]; exact q9)]
    exact s'.nw b hb e
  · rw [← efs]; exact q11.mono (g1.trans g2)
end
/-- self.f = e, an attribute that is not there yet -/
theorem fs_snoc {G : Hp} {vs : List (Str × V)} {fs : List (Str × Fe)} {f : Str} {v : V} {q : Fe} (h : FsOk G vs fs) (hv : FeOk G v q) : FsOk G (vs ++ [(f, v)]) (fs ++ [(f, q)]) := by
  have hl : vs.length = fs.length := by have := congrArg List.length h.1; simpa using this
  refine ⟨by rw [List.map_append, List.map_append, h.1]; rfl, fun i p q' h1 h2 => ?_⟩
  by_cases hi : i < vs.length
  · rw [List.getElem?_append_left hi] at h1
    rw [List.getElem?_append_left (by omega)] at h2
    exact h.2 i p q' h1 h2
  · rw [List.getElem?_append_right (by omega)] at h1
    rw [List.getElem?_append_right (by omega)] at h2
    have e0 : i - vs.length = 0 := by
      have := (List.getElem?_eq_some_iff.mp h1).1
      simp at this; omega
    rw [e0] at h1
    rw [← hl, e0] at h2
    cases h1; cases h2
    exact hv
theorem putF_new {f : Str} {v : V} : ∀ {vs : List (Str × V)}, vs.lookup f = none → putF f v vs = vs ++ [(f, v)]
  | [], _ => rfl
  | (k, u) :: vs, h => by
    rw [List.lookup_cons] at h
    by_cases e1 : (f == k) = true
    · rw [e1] at h; cases h
    · have e1' : (f == k) = false := by simpa using e1
      rw [e1'] at h
      have ne : ¬ k = f := fun z => e1 (by simp [z])
      show (if k = f then _ else (k, u) :: putF f v vs) = _
      rw [if_neg ne, putF_new h]; rfl
theorem ss_fldset {T : Md} {rest : List Stmt} {Po : Post} {np pos' : Pos} {fs : List (Str × Fe)} {a : Addr} (i : Nat) (h : Γ[i]? = some (.obj a C fs)) (c : Cls X.K C) (n : NoAttr X.K C f) (hf : fs.lookup f = none) (hz : fs.length < 500) (he : EV X M e Γ R x) (hr : SSt X M T rest (Γ.set i (.obj a C (fs ++ [(f, .mk R x)]))) Po)
    (hN : X.N[i]? = some nm := by rfl) (hv : Vis X.env.scope nm := by first | exact Or.inl rfl | exact Or.inr (Or.inl rfl) | exact Or.inr (Or.inr rfl)) (hd : (nm == ("__debug__" : Str)) = false := by decide) (hcd : (nm == ("__classdict__" : Str)) = false := by decide)
    (hs : swapsWith e (some (.Attribute (.Name nm np) f pos')) pos.line X.env = pure false := by rfl) : SSt X M T (.Assign [.Attribute (.Name nm np) f pos'] e pos :: rest) Γ Po :=
  ss_consG (M1 := M) (N := fun Γ' => Γ' = Γ.set i (.obj a C (fs ++ [(f, .mk R x)]))) (fun G0 H0 G H σ D t s m => by
    refine of_ps (ps_fld (pe_var hN hv hd hcd) pe_of hs) (he H0 G H σ t _ fun v x' G1 H1 ex s1 r1 => ?_)
    subst ex
    have t1 := t.step s1
    obtain ⟨dx, vs, h1, h2, h3, h4, h5, h6, h7, h8, h9, h10, h11⟩ := t1.ent i _ h
    have hl : vs.length = fs.length := by have := congrArg List.length h11.1; simpa using this
    have S1 := s.trans s1
    have hm : M.I G1 (upd H1 a (.ins C dx (putF f v vs))) := M.up t1.ok.i (Same.refl _) (same_updR t1.ok.gh h5) (fun b hb => upd_ne fun z => h7 (by rw [← z]; exact hb)) (fun b φ z => by rw [upd_ne fun q => (by rw [q, h2] at z; cases z)]; exact z)
    have hne : ∀ b ∈ M.F, b ≠ a := fun b hb z => h7 (by rw [← z]; exact hb)
    have hsz : SzOk (upd H1 a (.ins C dx (putF f v vs))) := szOk_upd t1.ok.sz trivial
    have hli : i < Γ.length := (List.getElem?_eq_some_iff.mp h).1
    refine ⟨_, h1, a, C, dx, vs, rfl, h2, c, n, by omega, m.nx _ σ G1 _ rfl ⟨⟨same_updR t1.ok.gh h5, hsz, hm, fun b hb => ⟨by rw [upd_ne (hne b hb)]; exact (t1.ok.f b hb).1, (t1.ok.f b hb).2⟩⟩, by simpa using t1.len, fun j e' hj => ?_, fun j k' b hjk o1 o2 => ?_⟩
      ⟨S1.g, same_updR S1.gh h5, hsz, fun b o hb q => by rw [upd_ne (ne_of_none q h9)]; exact S1.h b o hb q, S1.nw, hm, fun b hb => by rw [upd_ne (hne b hb)]; exact S1.f b hb⟩⟩
    · by_cases hij : i = j
      · subst hij
        rw [List.getElem?_set_self hli] at hj; cases hj
        refine ⟨dx, vs ++ [(f, v)], h1, by rw [upd_same, putF_new (fs_none h11 hf)], by rw [upd_ne h4]; exact h3, h4, h5, h6, h7, h8, h9, h10, fs_snoc h11 r1⟩
      · rw [List.getElem?_set_ne hij] at hj
        refine ent_upd (fun y z => by rw [h2] at z; cases z) (t1.ent j e' hj) fun b ob hb z => ?_
        subst z
        exact t1.dis i j b hij (by rw [h]; trivial) (by rw [hj]; exact ob) h1 hb
    · have w : ∀ q, IsOwn (Γ.set i (.obj a C (fs ++ [(f, .mk R x')])))[q]? → IsOwn Γ[q]? := fun q o => by
        rcases isOwn_set o with ⟨e, _⟩ | ⟨_, o⟩
        · rw [e, h]; trivial
        · exact o
      exact t1.dis j k' b hjk (w j o1) (w k' o2)) fun _ q => q ▸ hr
end
end RT

/-! RT6: tuples of numbers: max, min, sum, index; repr and == of data. -/
namespace RT
open PySem L2
open PySem.Spec in
theorem dp_ints {K : PySem.W.Frag} {H : Hp} : ∀ ns : List Int, DpAll K H (ns.map V.int) (ns.map PyData.int)
  | [] => .nil
  | n :: t => .cons (.int n) (dp_ints t)
theorem isTuple_of {h : Heap} {a : Addr} {its : Array Value} (p : PyProof.Rows.IsTup h a its) : h.IsTuple a its := p
theorem alike_ints (ns : List Int) : PySem.W.AlikeAll (ns.map PyData.int) := by
  refine ⟨fun x hx y hy => ?_, fun x hx => ?_⟩
  · obtain ⟨i, _, rfl⟩ := List.mem_map.mp hx
    obtain ⟨j, _, rfl⟩ := List.mem_map.mp hy
    rfl
  · obtain ⟨i, _, rfl⟩ := List.mem_map.mp hx
    exact fun z => nomatch z
theorem depth_ints : ∀ ns : List Int, PyData.depthAll (ns.map PyData.int) ≤ 1
  | [] => Nat.zero_le _
  | n :: t => by
    have := depth_ints t
    show max (PyData.depth (.int n)) (PyData.depthAll (t.map PyData.int)) ≤ 1
    have : PyData.depth (.int n) = 0 := rfl
    omega
section
variable {X : Cx}
theorem cr_maxT (hc : X.calm = true) (hu : X.A.units + 64 < cLine) : CallR X (.builtin "max") (fun vs H Q => ∃ (a : Addr) (ns : List Int), vs = [V.ref a] ∧ SqT X.K H a (ns.map V.int) ∧ 0 < ns.length ∧ Q (.int (maxL ns)) H) := by
  intro pins s σ H vs us Q I r h
  obtain ⟨a, ns, rfl, hs, hne, q⟩ := h
  obtain ⟨its, rv, hl, _⟩ := I.tuple hs
  rw [Vals.ref1 r]
  cases ns with
  | nil => exact absurd hne (by simp)
  | cons n t =>
    obtain ⟨as, ra⟩ := Dp.readsAll I ((n :: t).map PyData.int) ((n :: t).map V.int) its (dp_ints _) rv
    have dd := depth_ints (n :: t)
    refine PySem.W.max_tuple_data (I.ok.hd hc) (isTuple_of hl) (x := .int n) (xs := t.map PyData.int) ra (alike_ints (n :: t)) (by have : PyData.depthAll (PyData.int n :: t.map PyData.int) ≤ 1 := dd; omega) fun i v h' tk bs hv rd hk => ?_
    rw [PySem.W.maxD_ints] at rd
    cases rd with
    | int => exact ⟨.int _, H, I.kept hk, ⟨_, rfl⟩, q⟩
theorem cr_minT (hc : X.calm = true) (hu : X.A.units + 64 < cLine) : CallR X (.builtin "min") (fun vs H Q => ∃ (a : Addr) (ns : List Int), vs = [V.ref a] ∧ SqT X.K H a (ns.map V.int) ∧ 0 < ns.length ∧ Q (.int (minL ns)) H) := by
  intro pins s σ H vs us Q I r h
  obtain ⟨a, ns, rfl, hs, hne, q⟩ := h
  obtain ⟨its, rv, hl, _⟩ := I.tuple hs
  rw [Vals.ref1 r]
  cases ns with
  | nil => exact absurd hne (by simp)
  | cons n t =>
    obtain ⟨as, ra⟩ := Dp.readsAll I ((n :: t).map PyData.int) ((n :: t).map V.int) its (dp_ints _) rv
    have dd := depth_ints (n :: t)
    refine PySem.W.min_tuple_data (I.ok.hd hc) (isTuple_of hl) (x := .int n) (xs := t.map PyData.int) ra (alike_ints (n :: t)) (by have : PyData.depthAll (PyData.int n :: t.map PyData.int) ≤ 1 := dd; omega) fun i v h' tk bs hv rd hk => ?_
    rw [PySem.W.minD_ints] at rd
    cases rd with
    | int => exact ⟨.int _, H, I.kept hk, ⟨_, rfl⟩, q⟩
theorem cr_sumT (hc : X.calm = true) : CallR X (.builtin "sum") (fun vs H Q => ∃ (a : Addr) (ns : List Int), vs = [V.ref a] ∧ SqT X.K H a (ns.map V.int) ∧ Q (.int ns.sum) H) := by
  intro pins s σ H vs us Q I r h
  obtain ⟨a, ns, rfl, hs, q⟩ := h
  obtain ⟨its, rv, hl, _⟩ := I.tuple hs
  rw [Vals.ref1 r]
  have hi := rv.ints
  obtain ⟨xs, e⟩ := hi.allInts.items
  have hn : numsOf (intItems xs).toList = ns := by rw [← e]; exact hi.numsOf
  rw [nums_intItems] at hn
  have hl' : s.heap.IsTuple a (intItems xs) := by rw [← e]; exact isTuple_of hl
  refine PySem.W.ktm_sumG (I.ok.hd hc) hl' fun h' tk t' hk => ⟨.int _, H, I.kept hk, ⟨t', by rw [PySem.preSum_eq, List.take_of_length_le (by simp), hn]⟩, q⟩
theorem mt_tupIndex (hu : X.A.units + 64 < cLine) : MtR X "tuple.index" (fun x xs H Q => ∃ (a : Addr) (ns : List Int) (n : Int), x = V.ref a ∧ xs = [V.int n] ∧ SqT X.K H a (ns.map V.int) ∧ n ∈ ns ∧ Q (.int (ns.idxOf n : Nat)) H) := by
  intro pins s σ H x xs v us Q I rx r h
  obtain ⟨a, ns, n, rfl, rfl, hs, hn, q⟩ := h
  obtain ⟨its, rv, hl, _⟩ := I.tuple hs
  cases rx
  obtain ⟨u, rfl, t, rfl⟩ := vals1 r
  obtain ⟨as, ra⟩ := Dp.readsAll I (ns.map PyData.int) (ns.map V.int) its (dp_ints _) rv
  exact PySem.W.index_tuple_datum (α := Int) (xs := ns) (isTuple_of hl) ⟨as, ra⟩ ⟨[], Reads.int n t⟩ (by have : PySem.W.Datum.depth Int = 0 := rfl; omega) hn ⟨.int _, H, I.tok _, ⟨_, rfl⟩, q⟩
/-- repr(x) of data; no guard stands around -/
theorem cr_repr (hu : X.A.units + 70 < cLine) (hg : X.A.guards = some []) : CallR X (.builtin "repr") (fun vs H Q => ∃ (x : V) (d : PyData), vs = [x] ∧ Dp X.K H x d ∧ d.showable = true ∧ d.hasDict = false ∧ d.depth ≤ 64 ∧ d.shown.length ≤ sizeLine ∧ Q (.str d.shown) H) := by
  intro pins s σ H vs us Q I r h
  obtain ⟨x, d, rfl, hd, hs, hD, hdp, hz, q⟩ := h
  obtain ⟨u, rfl, ru⟩ := vals1 r
  obtain ⟨as, rd⟩ := Dp.reads I d x u hd ru
  have nodict : d.hasDict = true → sysModules ∉ as := fun e => by rw [hD] at e; cases e
  cases hd with
  | non => cases ru; exact PySem.P.repr_of_none ⟨.str _, H, I.tok _, ⟨_, rfl⟩, q⟩
  | bl b => cases ru; exact PySem.P.repr_of_bool ⟨.str _, H, I.tok _, ⟨_, rfl⟩, q⟩
  | int i =>
    obtain ⟨t, rfl⟩ := ru
    exact PySem.P.repr_of_int (by simpa [PyData.showable] using hs) ⟨.str _, H, I.tok _, ⟨_, rfl⟩, q⟩
  | str y =>
    obtain ⟨t, rfl⟩ := ru
    exact PySem.P.repr_of_str ⟨.str _, H, I.tok _, ⟨_, rfl⟩, q⟩ hz
  | lst h1 h2 =>
    cases ru
    exact PySem.repr_of_reads' rd hs nodict hg (by omega) (fun _ _ e => e) (fun h' u' tk hk => ⟨.str _, H, I.kept hk, ⟨u', rfl⟩, q⟩) hz
  | tup h1 h2 =>
    cases ru
    exact PySem.repr_of_reads' rd hs nodict hg (by omega) (fun _ _ e => e) (fun h' u' tk hk => ⟨.str _, H, I.kept hk, ⟨u', rfl⟩, q⟩) hz
end
/-! ### data told as PyData -/
def HasD {α : Type} (R : Rp α) (x : α) (d : PyData) : Prop := ∀ (K : PySem.W.Frag) (G : Hp) (v : V), R.rel G v x → Dp K G v d
theorem hd_int {i : Int} : HasD rInt i (.int i) := fun K G v h => by rw [show v = V.int i from h]; exact .int i
theorem hd_bool {b : Bool} : HasD rBool b (.bool b) := fun K G v h => by rw [show v = V.bl b from h]; exact .bl b
theorem hd_str {x : Str} : HasD rStr x (.str x) := fun K G v h => by rw [show v = V.str x from h]; exact .str x
theorem hd_none : HasD rNone () .none := fun K G v h => by rw [show v = V.non from h]; exact .non
theorem dpAll_of {α : Type} {R : Rp α} {enc : α → PyData} {K : PySem.W.Frag} {G : Hp} : ∀ {vs : List V} {xs : List α}, (∀ x ∈ xs, HasD R x (enc x)) → Paired (R.rel G) vs xs → DpAll K G vs (xs.map enc)
  | _, _, _, .nil => .nil
  | _, _, h, .cons r t => .cons (h _ List.mem_cons_self K G _ r) (dpAll_of (fun x hx => h x (List.mem_cons_of_mem _ hx)) t)
theorem hd_tup {α : Type} {R : Rp α} {xs : List α} (enc : α → PyData) (h : ∀ x ∈ xs, HasD R x (enc x)) : HasD (rTup R) xs (.tuple (xs.map enc)) := fun K G v ⟨a, vs, e, h1, h2⟩ => by
  subst e; exact .tup (.inl h1) (dpAll_of h h2)
theorem hd_lst {α : Type} {R : Rp α} {xs : List α} (enc : α → PyData) (h : ∀ x ∈ xs, HasD R x (enc x)) : HasD (rLst R) xs (.list (xs.map enc)) := fun K G v ⟨a, vs, e, h1, h2⟩ => by
  subst e; exact .lst (.inl h1) (dpAll_of h h2)
theorem hd_pair {α β : Type} {R : Rp α} {S : Rp β} {p : α × β} {d1 d2 : PyData} (h1 : HasD R p.1 d1) (h2 : HasD S p.2 d2) : HasD (rPair R S) p (.tuple [d1, d2]) := fun K G v ⟨a, v1, v2, e, r1, r2, r3⟩ => by
  subst e; exact .tup (.inl r1) (.cons (h1 K G v1 r2) (.cons (h2 K G v2 r3) .nil))
/-! how long the text of data without texts and dicts may be -/
mutual
def wt : PyData → Nat
  | .none => 10
  | .bool _ => 10
  | .int _ => 2000
  | .str _ => 2 ^ 40
  | .list _ => 2 ^ 40
  | .tuple xs => wtAll xs + 10
  | .dict _ => 2 ^ 40
def wtAll : List PyData → Nat
  | [] => 0
  | x :: xs => wt x + 2 + wtAll xs
end
theorem tupleText_le (ts : List Str) : (tupleText ts).length ≤ piled ts + 3 := by
  unfold tupleText
  rw [strLen_append, strLen_append]
  have e1 : ((("(" : String) : Str)).length = 1 := rfl
  have e3 : (((if ts.length == 1 then ",)" else ")" : String) : Str)).length ≤ 2 := by split <;> decide
  rw [e1]
  by_cases h : ts = []
  · subst h
    have : (Str.join ", " []).length = 0 := rfl
    omega
  · have := join_length_add ts h
    omega
mutual
theorem wt_le : ∀ d : PyData, d.showable = true → wt d < 2 ^ 40 → d.shown.length ≤ wt d
  | .none, _, _ => by show (Str.ofString "None").length ≤ 10; decide
  | .bool b, _, _ => by cases b <;> (show (Str.ofString _).length ≤ 10) <;> decide
  | .int i, h, _ => by
    have h' : i.natAbs.log2 < 1920 := by simpa [PyData.showable] using h
    have := int_text_length_le (by decide) h'
    show (Str.ofString (toString i)).length ≤ 2000
    rw [ofString_length]
    omega
  | .str _, _, h => absurd h (by show ¬ (2 ^ 40 < 2 ^ 40); omega)
  | .list _, _, h => absurd h (by show ¬ (2 ^ 40 < 2 ^ 40); omega)
  | .dict _, _, h => absurd h (by show ¬ (2 ^ 40 < 2 ^ 40); omega)
  | .tuple xs, h, hw => by
    have h' : PyData.showableAll xs = true := by simpa [PyData.showable] using h
    have hw' : wtAll xs + 10 < 2 ^ 40 := hw
    have := wtAll_le xs h' (by omega)
    have := tupleText_le (PyData.shownAll xs)
    show (tupleText (PyData.shownAll xs)).length ≤ wtAll xs + 10
    omega
theorem wtAll_le : ∀ xs : List PyData, PyData.showableAll xs = true → wtAll xs < 2 ^ 40 → piled (PyData.shownAll xs) ≤ wtAll xs
  | [], _, _ => by show piled [] ≤ 0; rw [piled_nil]; exact Nat.le_refl 0
  | x :: xs, h, hw => by
    have h' : PyData.showable x = true ∧ PyData.showableAll xs = true := by simpa [PyData.showableAll] using h
    have hw' : wt x + 2 + wtAll xs < 2 ^ 40 := hw
    have h1 := wt_le x h'.1 (by omega)
    have h2 := wtAll_le xs h'.2 (by omega)
    show piled (PyData.shown x :: PyData.shownAll xs) ≤ wt x + 2 + wtAll xs
    rw [piled_cons]
    omega
end
/-- data whose == and repr are told -/
structure Told (d : PyData) : Prop where
  lay : d.canLay0 = true
  sh : d.showable = true
  nd : d.hasDict = false
  dp : d.depth ≤ 60
  sz : d.shown.length ≤ sizeLine
section
variable {X : Cx} {M : Md} {Γ : List Ent} {e a b c : Expr} {α β γ : Type} {R : Rp α} {S : Rp β} {x : α} {y : β} {pos p : Pos} {ns : List Int} {d1 d2 : PyData}
theorem ev_eqD (hu : X.A.units + 64 < cLine) (ha : EV X M a Γ R x) (hb : EV X M b Γ S y) (h1 : HasD R x d1) (h2 : HasD S y d2) (t1 : SeqAt.shaped d1 = true) (t2 : SeqAt.shaped d2 = true) (hm : behindInMarks .Eq b = false := by exact nomark _) : EV X M (.Compare a [.Eq] [b] pos) Γ rBool (PyData.eqv d1 d2) :=
  ev_op2 (pe_cmpR (op_eqD hu) pe_of pe_of hm) ha hb fun _ _ e1 e2 => by
    subst e1; subst e2
    intro G H v w o r1 r2 Q k
    exact ⟨d1, d2, h1 _ H v (R.mono o.gh r1), h2 _ H w (S.mono o.gh r2), t1, t2, k _ _ G H rfl (Step.refl o) rfl⟩
theorem ev_neD (hu : X.A.units + 64 < cLine) (ha : EV X M a Γ R x) (hb : EV X M b Γ S y) (h1 : HasD R x d1) (h2 : HasD S y d2) (t1 : SeqAt.shaped d1 = true) (t2 : SeqAt.shaped d2 = true) (hm : behindInMarks .NotEq b = false := by exact nomark _) : EV X M (.Compare a [.NotEq] [b] pos) Γ rBool (!PyData.eqv d1 d2) :=
  ev_op2 (pe_cmpR (op_neD hu) pe_of pe_of hm) ha hb fun _ _ e1 e2 => by
    subst e1; subst e2
    intro G H v w o r1 r2 Q k
    exact ⟨d1, d2, h1 _ H v (R.mono o.gh r1), h2 _ H w (S.mono o.gh r2), t1, t2, k _ _ G H rfl (Step.refl o) rfl⟩
theorem ev_repr (hm : X.mg "repr" = none) (hu : X.A.units + 70 < cLine) (hgd : X.A.guards = some []) (ha : EV X M e Γ R x) (h1 : HasD R x d1) (t : Told d1) (hg : Gl X "repr" := by rfl) (hs : starEach [e] X.env = (false, eval e X.env) :: starEach [] X.env := by rfl) (hpl : (backTo pos (starEach [] X.env)).any (·.1) = false := by rfl) : EV X M (.Call (.Name "repr" p) [e] [] pos) Γ rStr d1.shown :=
  ev_B (cr_repr hu hgd) hm (by decide +kernel) (ea_cons ha ea_nil hs) (fun _ h => by
    subst h
    intro G H vs o ar Q k
    obtain ⟨v, rfl, r⟩ := args1 ar
    exact ⟨v, d1, rfl, h1 _ H v (R.mono o.gh r), t.sh, t.nd, by have := t.dp; omega, t.sz, k _ _ G H rfl (Step.refl o) rfl⟩) hg (by decide) (by decide) hs hpl
theorem ev_maxT (hm : X.mg "max" = none) (hcalm : X.calm = true) (hu : X.A.units + 64 < cLine) (ha : EV X M e Γ (rTup rInt) ns) (h0 : 0 < ns.length) (hg : Gl X "max" := by rfl) (hs : starEach [e] X.env = (false, eval e X.env) :: starEach [] X.env := by rfl) (hpl : (backTo pos (starEach [] X.env)).any (·.1) = false := by rfl) : EV X M (.Call (.Name "max" p) [e] [] pos) Γ rInt (maxL ns) :=
  ev_B (cr_maxT hcalm hu) hm (by decide +kernel) (ea_cons ha ea_nil hs) (fun _ h => by
    subst h
    intro G H vs o ar Q k
    obtain ⟨v, rfl, a, us, rfl, h2, h3⟩ := args1 ar
    rw [paired_ints h3] at h2
    exact ⟨a, ns, rfl, .inl (rd_up o.gh h2), h0, k _ _ G H rfl (Step.refl o) rfl⟩) hg (by decide) (by decide) hs hpl
theorem ev_minT (hm : X.mg "min" = none) (hcalm : X.calm = true) (hu : X.A.units + 64 < cLine) (ha : EV X M e Γ (rTup rInt) ns) (h0 : 0 < ns.length) (hg : Gl X "min" := by rfl) (hs : starEach [e] X.env = (false, eval e X.env) :: starEach [] X.env := by rfl) (hpl : (backTo pos (starEach [] X.env)).any (·.1) = false := by rfl) : EV X M (.Call (.Name "min" p) [e] [] pos) Γ rInt (minL ns) :=
  ev_B (cr_minT hcalm hu) hm (by decide +kernel) (ea_cons ha ea_nil hs) (fun _ h => by
    subst h
    intro G H vs o ar Q k
    obtain ⟨v, rfl, a, us, rfl, h2, h3⟩ := args1 ar
    rw [paired_ints h3] at h2
    exact ⟨a, ns, rfl, .inl (rd_up o.gh h2), h0, k _ _ G H rfl (Step.refl o) rfl⟩) hg (by decide) (by decide) hs hpl
theorem ev_sumT (hm : X.mg "sum" = none) (hcalm : X.calm = true) (ha : EV X M e Γ (rTup rInt) ns) (hg : Gl X "sum" := by rfl) (hs : starEach [e] X.env = (false, eval e X.env) :: starEach [] X.env := by rfl) (hpl : (backTo pos (starEach [] X.env)).any (·.1) = false := by rfl) : EV X M (.Call (.Name "sum" p) [e] [] pos) Γ rInt ns.sum :=
  ev_B (cr_sumT hcalm) hm (by decide +kernel) (ea_cons ha ea_nil hs) (fun _ h => by
    subst h
    intro G H vs o ar Q k
    obtain ⟨v, rfl, a, us, rfl, h2, h3⟩ := args1 ar
    rw [paired_ints h3] at h2
    exact ⟨a, ns, rfl, .inl (rd_up o.gh h2), k _ _ G H rfl (Step.refl o) rfl⟩) hg (by decide) (by decide) hs hpl
end
/-! ### a tuple that was just made by tuple(..): its object is known -/
def rTupN {α : Type} (R : Rp α) : Rp (List α) := ⟨fun G v xs => ∃ a o vs, v = .ref a ∧ G a = some (.frz o (.tup vs)) ∧ o.dict = none ∧ Paired (R.rel G) vs xs, fun e ⟨a, o, vs, h1, h2, h3, h4⟩ => ⟨a, o, vs, h1, e _ _ h2, h3, R.pmono e h4⟩⟩
theorem rTupN_tup {α : Type} {R : Rp α} {G : Hp} {v : V} {xs : List α} (h : (rTupN R).rel G v xs) : (rTup R).rel G v xs := let ⟨a, o, vs, h1, h2, _, h4⟩ := h; ⟨a, vs, h1, .inr ⟨o, h2⟩, h4⟩
section
variable {X : Cx} {M : Md} {Γ : List Ent} {e a b c : Expr} {α β γ : Type} {R : Rp α} {S : Rp β} {x : α} {y : β} {xs : List α} {pos p : Pos} {ns : List Int}
theorem ev_as {P : α → Prop} {P2 : β → Prop} (h : EVp X M e Γ R P) (k : ∀ x, P x → ∃ y, P2 y ∧ ∀ G v, R.rel G v x → S.rel G v y) : EVp X M e Γ S P2 := fun H0 G H σ t Q q => h H0 G H σ t Q fun v x G' H' px s r => let ⟨y, hy, f⟩ := k x px; q v y G' H' hy s (f G' v r)
theorem ev_unN (h : EV X M e Γ (rTupN R) xs) : EV X M e Γ (rTup R) xs := ev_as h fun x px => ⟨x, px, fun _ _ => rTupN_tup⟩
theorem call_tuple_ofN : CallR X (.type "tuple") (fun xs H Q => ∃ p ys, xs = [.ref p] ∧ SqL X.K H p ys ∧ ∀ l o, o.dict = none → H l = none → Q (.ref l) (upd H l (.frz o (.tup ys)))) := by
  intro pins s σ H xs us Q I r h
  obtain ⟨p, ys, rfl, hq, q⟩ := h
  obtain ⟨u, rfl, rx⟩ := vals1 r
  cases rx
  obtain ⟨its, r', pl, hz⟩ := I.list hq
  have hlen := r'.length
  refine call_tuple_list pl.isList (fun h' kp => ?_) (by simp only [List.size_toArray] <;> omega)
  have J : Inv X pins σ H { s with heap := h' } := I.kept (t' := s.toks) kp
  have new : ObjOk X.prog X.w (upd H h'.objs.size (.frz { cls := .type "tuple", data := .seq its.toArray } (.tup ys))) (h'.push { cls := .type "tuple", data := .seq its.toArray }) h'.objs.size (.frz { cls := .type "tuple", data := .seq its.toArray } (.tup ys)) :=
    ⟨Heap.get?_push_size _ rfl, hz, its, r', PyProof.Rows.IsTup.new _ _⟩
  exact ⟨.ref h'.objs.size, _, J.laid (t' := s.toks) (fun b o e => Heap.get?_push_of_some _ e) (Nat.le_refl _) new, rfl, q _ _ rfl (J.hok.fresh (Nat.le_refl _))⟩
theorem ev_tupleN (hm : X.mg "tuple" = none) (ha : EV X M e Γ (rLst R) xs) (hg : Gl X "tuple" := by rfl) (hs : starEach [e] X.env = (false, eval e X.env) :: starEach [] X.env := by rfl) (hpl : (backTo pos (starEach [] X.env)).any (·.1) = false := by rfl) : EV X M (.Call (.Name "tuple" p) [e] [] pos) Γ (rTupN R) xs :=
  ev_Ty call_tuple_ofN hm (by decide +kernel) (ea_cons ha ea_nil hs) (fun _ h => by
    subst h
    intro G H vs o ar Q k
    obtain ⟨v, rfl, a, us, rfl, h2, h3⟩ := args1 ar
    have hz := o.sz a us (.inl (rd_up o.gh h2))
    exact ⟨a, us, rfl, .inl (rd_up o.gh h2), fun l ob hd hl => k _ _ _ _ rfl (Step.new o hl hz) ⟨l, ob, us, rfl, upd_same, hd, R.pmono (same_upd (o.gnone hl)) h3⟩⟩) hg (by decide) (by decide) hs hpl
/-- t.m(e), t such a tuple -/
def tTM (r : V → List V → Hp → VK → Prop) (to : TE) (t : TA) : TE := fun σ H Q => to σ H fun x H1 => (∃ a o ys, x = .ref a ∧ H1 a = some (.frz o (.tup ys)) ∧ o.dict = none) ∧ t σ H1 fun xs H2 => r x xs H2 Q
theorem pe_tm {name : Str} {id : String} {r : V → List V → Hp → VK → Prop} {es : List Expr} {to : TE} {t : TA} {apos cpos : Pos} (slot : Slot "tuple" name id) (hty : typeOf (.builtin id) = pure (.type "method_descriptor")) (hm : MtR X id r) (ho : PE X a to) (ha : PA X (e :: es) t)
    (hbase : attributeBase a name X.env (eval a X.env) = eval a X.env) (hb : BmOk X e es apos cpos) : PE X (.Call (.Attribute a name apos) (e :: es) [] cpos) (tTM r to t) := by
  refine ⟨fun pins s σ H Q I h => ?_⟩
  refine wpAny_Call_method_late hbase hb.few hb.line rfl (thn (ho.run pins s σ H _ I h) fun v s1 ⟨x, H1, I1, r1, ⟨q, o, ys, ex, hq, hd⟩, q1⟩ => ?_)
  subst ex
  cases r1
  obtain ⟨ho', _, its, _, o2, g2, c2, _⟩ := (show ObjOk X.prog X.w H1 s1.heap q (.frz o (.tup ys)) from I1.hok q _ hq)
  have h1 : s1.TypeIs (.ref q) "tuple" := ⟨o2, g2, c2⟩
  refine ⟨"tuple", id, PySem.F.plainAttrs_tuple, slot, hty, h1, fun z e => by cases e; exact ⟨o, ho', hd⟩, ?_⟩
  have hA := ha.run cpos pins s1 σ H1 _ I1 q1
  rw [hb.st] at hA ⊢
  refine Calls.callWith_builtin (by show (false || (backTo cpos (starEach es X.env)).any (·.1)) = false; rw [hb.pl] <;> rfl) (Calls.evalArgs_plain ?_)
  exact thn hA fun us s2 ⟨vs, H2, I2, r2, q2⟩ => hm pins s2 σ H2 (.ref q) vs (.ref q) us Q I2 rfl r2 q2
/-- t.index(n) of a tuple -/
theorem ev_idxT {n : Int} {apos : Pos} (hu : X.A.units + 64 < cLine) (ha : EV X M a Γ (rTupN rInt) ns) (he : EV X M e Γ rInt n) (hn : n ∈ ns) (hbase : attributeBase a "index" X.env (eval a X.env) = eval a X.env := by rfl) (hb : BmOk X e [] apos pos := by exact ⟨rfl, rfl, rfl, rfl⟩) : EV X M (.Call (.Attribute a "index" apos) [e] [] pos) Γ rInt (ns.idxOf n : Nat) := fun H0 G H σ t Q k =>
  of_pe (pe_tm PySem.F.slot_tuple_index PySem.F.type_tuple_index (mt_tupIndex hu) pe_of (pa_cons pe_of pa_nil hb.st) hbase hb) (ha H0 G H σ t _ fun v x G1 H1 e1 s1 r1 => by
    subst e1
    obtain ⟨q, o, us, rfl, h2, h3, h4⟩ := id r1
    refine ⟨⟨q, o, us, rfl, s1.gh _ _ h2, h3⟩, he H0 G1 H1 σ (t.step s1) _ fun w y G2 H2 e2 s2 r2 => ?_⟩
    subst e2
    have q2 : SqT X.K H2 q us := .inl (.inr ⟨o, s2.gh _ _ (s2.g _ _ h2)⟩)
    rw [paired_ints h4] at q2
    exact ⟨q, x, y, rfl, by rw [show w = V.int y from r2], q2, hn, k _ _ G2 H2 rfl (s1.trans s2) rfl⟩)
end
end RT

/-! RT7: defs that ask that no guard stands around (repr); the law's own call; star parameters; calls by keywords alone. -/
namespace RT
open PySem L2
open PyProof.Rows (envOfC)
/-- a def's promise where it is known that no guard stands around -/
def FnG (P : Program) (w : World) (K : PySem.W.Frag) (mg : Str → Option Value) (base : Heap) (k : Nat) (f : Addr) (fd : FuncData) (ps : List Str) (sp : Sp) : Prop :=
  ∀ (A : Around) (outer : List Env) (s : Shared) (H : Hp) (args : Args) (us : List Value) (vs : List V) (Q : VK), Room k A → A.guards = some [] → Env0 P w K mg base A outer s H → BindsTo s fd args (ps.zip us) → Vals vs us → vs.length = ps.length → sp vs H Q E0 →
    codeAny (model P w) A (.call (.ref f) args) (CR CX0 outer P w H s Q E0) s
section
variable {P : Program} {w : World} {K : PySem.W.Frag} {mg : Str → Option Value} {base : Heap}
theorem fnG_mk {x qual : Str} {st : Stmt} {f : Addr} {fd : FuncData} {N ps : List Str} {k : Nat} {C : Ctr} (F : Fun K x qual st f fd) (S : FnScope N ps (defScope st)) (hl : ∀ M as res, C M as res → as.length = ps.length)
    (hbody : ∀ (cdv : Value) (A : Around) (outer : List Env) (s : Shared) (H : Hp) (E : XK), Room k (A.deeper (envOfC qual (defScope st) s.heap.objs.size f cdv)) → A.guards = some [] → ∀ M as res, C M as res →
      SS (cxOf CX0 P w K mg base N qual (defScope st) f cdv A outer s H E).nox M (defBody st) (as ++ List.replicate (N.length - ps.length) Ent.any) { nx := fun _ => res (.val rNone ()), rt := res }) : FnG P w K mg base (k + 1) f fd ps (spC C) := by
  have hN : ps.length ≤ N.length := by have := congrArg List.length S.pre; rw [List.length_take] at this; omega
  obtain ⟨oc, od, kV, doc, pm, an, cdv, ct, osl, rfl, lk, hcd⟩ := F.ex
  intro A outer s H args us vs Q hr hgd e0 hb rv hlv hsp
  refine StX.run_bnd (G := fun xs H2 => xs = vs ∧ H2 = H) (E := E0) lk hcd S hr e0 (fun A' Ex Q' h => hb _ _ _ _ (h s H vs us e0 Un.refl rfl (fun _ _ z => z) rv hlv ⟨rfl, rfl⟩)) fun s2 H2 xs ⟨e1, e2⟩ hr' => ?_
  subst e1; subst e2
  obtain ⟨M, G, as, res, hc, o, ha, hq⟩ := hsp
  have hal := hl M as res hc
  have t := stt_start (N := N) o ha (by rw [hal]; exact hN)
  rw [hal] at t
  refine ⟨sOf (cxOf CX0 P w K mg base N qual (defScope st) f cdv A outer s2 H2 E0).nox (defBody st), PSs.nox pss_of, ?_⟩
  exact hbody cdv A outer s2 H2 E0 hr' hgd M as res hc G H2 G H2 _ _ t (Step.refl o) ⟨fun Γ σ G' H' n t' s' => hq rNone () .non G' H' n s' rfl, fun R x v G' H' p s' r => hq R x v G' H' p s' r, fun _ _ _ _ z => z.elim, fun _ _ _ _ z => z.elim⟩
end
/-- such a def as its callers know it -/
structure DefGC (P0 : Program) (w0 : World) (K0 : PySem.W.Frag) (mg0 : Str → Option Value) (base0 : Heap) (x : Str) (k : Nat) (f : Addr) (fd : FuncData) (ps : List Str) (C : Ctr) : Prop where
  ok : FnG P0 w0 K0 mg0 base0 k f fd ps (spC C)
  len : ∀ M as res, C M as res → as.length = ps.length
  mg : mg0 x = some (.ref f)
  kp : PySem.W.keepIn K0 (.ref f) = true
  bd : Binds K0 fd ps []
abbrev DefG (X : Cx) (x : Str) (k : Nat) (f : Addr) (fd : FuncData) (ps : List Str) (C : Ctr) : Prop := DefGC X.prog X.w X.K X.mg X.base x k f fd ps C
section
variable {X : Cx} {M : Md} {Γ : List Ent} {x nm : Str} {k : Nat} {f : Addr} {fd : FuncData} {ps : List Str} {C : Ctr} {e : Expr} {es : List Expr} {p pos : Pos} {A : List Ent → Prop} {α : Type} {R : Rp α} {P : α → Prop} {as : List Ent} {y : α}
theorem run_fnG {pins : List (Addr × Obj)} {σ : St} {H : Hp} {s : Shared} {Q : VK} {us : List Value} {vs : List V} {sp : Sp} (F : FnG X.prog X.w X.K X.mg X.base k f fd ps sp) (hr : Room k X.A) (hgd : X.A.guards = some []) (hb : Binds X.K fd ps []) (hl : vs.length = ps.length)
    (I : Inv X pins σ H s) (r : Vals vs us) (h : sp vs H Q E0) : wpAny (model X.prog X.w) X.A (call (.ref f) us) (EP X pins σ Q) X.xe s := by
  have hus : (us ++ []).length = ps.length := by rw [List.append_nil, ← r.length, hl]
  have b := hb s us I.kIn hus
  rw [List.append_nil] at b
  refine wpAny_call (codeAny_mono (F X.A X.stack s H ⟨us, []⟩ us vs Q hr hgd I.env0 b r hl h) fun q s' hq => ?_)
  match q, hq with
  | .ok (.ret u), hq => exact I.after hq
theorem ev_callG (D : DefG X x k f fd ps C) (hr : Room k X.A) (hgd : X.A.guards = some []) (ha : EA X M (e :: es) Γ as) (hc : C M as (fun u => u = .val R y)) (hg : Gl X x := by rfl)
    (hdb : (x == ("__debug__" : Str)) = false := by decide) (he : starEach (e :: es) X.env = (false, eval e X.env) :: starEach es X.env := by rfl) (hpl : (backTo pos (starEach es X.env)).any (·.1) = false := by rfl) :
    EV X M (.Call (.Name x p) (e :: es) [] pos) Γ R y := fun H0 G H σ t Q k' => by
  refine ⟨fun pins s I => ?_⟩
  refine wpAny_Call_Name_kw (ld_glob I hg D.mg ?_ hdb)
  refine PySem.W.callWith_K (h₀ := X.base) I.ok.mod.kin D.kp (thn ((ha H0 G H σ t (fun vs H1 => ∃ (G' : Hp), Step M G H G' H1 ∧ ArgsOk G' vs as) (fun vs as' G' H' e s ar => ⟨G', s, by rw [← e]; exact ar⟩)).run pos pins s I) fun us s1 ⟨vs, H1, I1, r, G1, s1', ar⟩ => ⟨I1.kIn, ?_⟩) he hpl
  refine run_fnG D.ok hr hgd D.bd (by rw [ar.1]; exact D.len M as _ hc) I1 r ?_
  have z := spC_use (P := fun q => q = y) (Q := Q) (E := E0) hc (s1'.okk t.ok) ar (fun u hu => ⟨y, rfl, hu⟩) fun v z G2 H2 e2 s2 r2 => k' v z G2 H2 e2 (s1'.trans s2) r2
  rw [List.append_nil] at z
  exact z
/-- a def with a star parameter, called with written arguments -/
structure DefRC (P0 : Program) (w0 : World) (K0 : PySem.W.Frag) (mg0 : Str → Option Value) (base0 : Heap) (x : Str) (k : Nat) (f : Addr) (C : Ctr) : Prop where
  ok : FnR P0 w0 K0 mg0 base0 CX0 k f (spC C)
  mg : mg0 x = some (.ref f)
  kp : PySem.W.keepIn K0 (.ref f) = true
abbrev DefR (X : Cx) (x : Str) (k : Nat) (f : Addr) (C : Ctr) : Prop := DefRC X.prog X.w X.K X.mg X.base x k f C
theorem ev_callR (D : DefR X x k f C) (hr : Room k X.A) (ha : EA X M (e :: es) Γ as) (hc : C M as (fun u => u = .val R y)) (hg : Gl X x := by rfl)
    (hdb : (x == ("__debug__" : Str)) = false := by decide) (he : starEach (e :: es) X.env = (false, eval e X.env) :: starEach es X.env := by rfl) (hpl : (backTo pos (starEach es X.env)).any (·.1) = false := by rfl) :
    EV X M (.Call (.Name x p) (e :: es) [] pos) Γ R y := fun H0 G H σ t Q k' => by
  refine ⟨fun pins s I => ?_⟩
  refine wpAny_Call_Name_kw (ld_glob I hg D.mg ?_ hdb)
  refine PySem.W.callWith_K (h₀ := X.base) I.ok.mod.kin D.kp (thn ((ha H0 G H σ t (fun vs H1 => ∃ (G' : Hp), Step M G H G' H1 ∧ ArgsOk G' vs as) (fun vs as' G' H' e s ar => ⟨G', s, by rw [← e]; exact ar⟩)).run pos pins s I) fun us s1 ⟨vs, H1, I1, r, G1, s1', ar⟩ => ⟨I1.kIn, ?_⟩) he hpl
  have z := spC_use (P := fun q => q = y) (Q := Q) (E := E0) hc (s1'.okk t.ok) ar (fun u hu => ⟨y, rfl, hu⟩) fun v z G2 H2 e2 s2 r2 => k' v z G2 H2 e2 (s1'.trans s2) r2
  rw [List.append_nil] at z
  refine wpAny_call (codeAny_mono (run_fnR D.ok hr pass0 I1 r z) fun q s' hq => ?_)
  match q, hq with
  | .ok (.ret u), hq => exact hq
  | .error er, hq => exact hq
/-- def f(*names): every argument goes into a new tuple -/
theorem fnR_star {P : Program} {w : World} {K : PySem.W.Frag} {mg : Str → Option Value} {base : Heap} {qual pn : Str} {st : Stmt} {N : List Str} {C : Ctr} {β : Type} {S : Rp β} (F : Fun K x qual st f fd) (Sc : FnScope N [pn] (defScope st))
    (hb : ∀ (kV doc pm : Value) (an : Option Addr) (cdv ct : Value) (rest : List Value), bindArgs (PySem.W.fnOf x qual (defArgs st) (defBody st) (defScope st) .none kV doc pm an cdv ct) ⟨rest, []⟩ = (newTuple rest >>= fun t => pure [(pn, t)]))
    (hC : ∀ M as res, C M as res → ∃ xs : List β, as = xs.map (fun x => Ent.val S x) ∧ xs.length ≤ 1000 ∧ ∀ (cdv : Value) (A : Around) (outer : List Env) (s : Shared) (H : Hp) (E : XK), Room k (A.deeper (envOfC qual (defScope st) s.heap.objs.size f cdv)) →
      SS (cxOf CX0 P w K mg base N qual (defScope st) f cdv A outer s H E).nox M (defBody st) (.val (rTup S) xs :: List.replicate (N.length - 1) Ent.any) { nx := fun _ => res (.val rNone ()), rt := res }) : FnR P w K mg base CX0 (k + 1) f (spC C) := by
  obtain ⟨oc, od, kV, doc, pm, an, cdv, ct, osl, rfl, lk, hcd⟩ := F.ex
  have hN : 1 ≤ N.length := by have := congrArg List.length Sc.pre; rw [List.length_take] at this; simp at this; omega
  have Fs := StX.fn_star (P := P) (w := w) (mg := mg) (base := base) (k := k) (CX := CX0) (ps := []) (pv := pn) (sp := fun vs H Q E => ∃ (M : Md) (G : Hp) (xs : List β) (res : Ent → Prop), vs.length = 1 ∧ Okk M G H ∧ ArgsOk G vs [.val (rTup S) xs] ∧ (∀ (cdv : Value) (A : Around) (outer : List Env) (s : Shared) (H : Hp) (E : XK), Room k (A.deeper (envOfC qual (defScope st) s.heap.objs.size f cdv)) →
      SS (cxOf CX0 P w K mg base N qual (defScope st) f cdv A outer s H E).nox M (defBody st) (.val (rTup S) xs :: List.replicate (N.length - 1) Ent.any) { nx := fun _ => res (.val rNone ()), rt := res }) ∧ ∀ {α : Type} (R : Rp α) (x : α) (v : V) (G' H' : Hp), res (.val R x) → Step M G H G' H' → R.rel G' v x → Q v H')
    lk hcd Sc StX.cxUp_none (fun us rest hl => by
      have : us = [] := by cases us with | nil => rfl | cons _ _ => simp at hl
      subst this
      exact hb kV doc pm an cdv ct rest) (fun A outer s H vs Q E hr ⟨M, G, xs, res, h1, o, ar, body, hq⟩ => ⟨sOf (cxOf CX0 P w K mg base N qual (defScope st) f cdv A outer s H E).nox (defBody st), PSs.nox pss_of, by
        have t := stt_start (N := N) o ar (by simp; omega)
        exact body cdv A outer s H E hr G H G H _ _ t (Step.refl o) ⟨fun Γ σ G' H' n t' s' => hq rNone () .non G' H' n s' rfl, fun R x v G' H' p s' r => hq R x v G' H' p s' r, fun _ _ _ _ z => z.elim, fun _ _ _ _ z => z.elim⟩⟩)
  refine Fs.imp fun vs H Q E ⟨M, G, as, res, hc, o, ar, hq⟩ => ?_
  obtain ⟨xs, rfl, hx, body⟩ := hC M as res hc
  have pr := argsAll ar
  have hl : vs.length = xs.length := paired_len pr
  refine ⟨[], vs, rfl, rfl, by rw [sizeLine_eq, hl]; omega, fun q hq' => ⟨M, upd G q (.tup vs), xs, res, rfl, ?_, ?_, body, fun R x v G' H' hr s r => hq R x v G' H' hr ?_ r⟩⟩
  · exact (Step.new o hq' (by show vs.length ≤ sizeLine; rw [sizeLine_eq, hl]; omega)).okk o
  · exact argsOk1 ⟨q, vs, rfl, .inl upd_same, S.pmono (same_upd (o.gnone hq')) pr⟩
  · exact (Step.new o hq' (by show vs.length ≤ sizeLine; rw [sizeLine_eq, hl]; omega)).trans s

/-! ### f(k = v, ..) -/
theorem pe_callK0 {kws : List Keyword} {tk : TA} {ks : List Str} {sp : Sp} {E : XK} {g : List Value → List Value → List Value} {gV : List V → List V → List V} (F : FnOk X.prog X.w X.K X.mg X.base CX0 k f fd ps sp) (hr : Room k X.A) (hg : Gl X x) (hm : X.mg x = some (.ref f)) (hk : PySem.W.keepIn X.K (.ref f) = true) (hb : KBinds X.K fd ps ks g gV) (hx : Passes CX0 X E)
    (hkw : PK X kws tk) (hall : (backToKw pos (keywordEach kws X.env)).all (·.1.isSome) = true) (hks : (backToKw pos (keywordEach kws X.env)).filterMap (·.1) = ks)
    (hdb : (x == ("__debug__" : Str)) = false) (hpl : ((backTo pos (starEach [] X.env)).any (·.1) || (backToKw pos (keywordEach kws X.env)).any (·.1.isNone)) = false) :
    PE X (.Call (.Name x p) [] kws pos) (fun σ H Q => tk σ H fun zs H1 => sp (gV [] zs) H1 Q E) := by
  refine ⟨fun pins s σ H Q I h => ?_⟩
  refine wpAny_Call_Name_kw (ld_glob I hg hm ?_ hdb)
  refine PySem.W.callWith_KW0 (h₀ := X.base) I.ok.mod.kin hk hall (thn (hkw.run pos pins s σ H _ I h) fun ws s2 ⟨zs, H2, I2, rz, q2⟩ => ⟨I2.kIn, ?_⟩) hpl
  rw [hks]
  exact run_fnk F hr hb hx I2 .nil rz q2
/-- the values of keywords, in the order of writing -/
structure tkOf (X : Cx) (kws : List Keyword) (σ : St) (H : Hp) (Q : List V → Hp → Prop) : Prop where
  run : ∀ (pos : Pos) (pins : List (Addr × Obj)) (s : Shared), Inv X pins σ H s → wpAny (model X.prog X.w) X.A (evalAll ((backToKw pos (keywordEach kws X.env)).map (·.2))) (AP X pins σ Q) X.xe s
theorem pk_of {kws : List Keyword} : PK X kws (tkOf X kws) := ⟨fun pos pins s _ _ _ I h => h.run pos pins s I⟩
theorem of_pk {kws : List Keyword} {t : TA} (h : PK X kws t) {σ : St} {H : Hp} {Q : List V → Hp → Prop} (q : t σ H Q) : tkOf X kws σ H Q := ⟨fun pos pins s I => h.run pos pins s σ H Q I q⟩
def EK (X : Cx) (M : Md) (kws : List Keyword) (Γ : List Ent) (as : List Ent) : Prop :=
  ∀ (H0 G H : Hp) (σ : St), Stt M H0 Γ σ G H → ∀ Q : List V → Hp → Prop, (∀ vs G' H', Step M G H G' H' → ArgsOk G' vs as → Q vs H') → tkOf X kws σ H Q
theorem ek_nil : EK X M [] Γ [] := fun H0 G H σ t Q k => of_pk pk_nil (k [] G H (Step.refl t.ok) argsOk_nil)
theorem ek_cons {nmo : Option Str} {kpos : Pos} {kws : List Keyword} (h : EV X M e Γ R y) (hr : EK X M kws Γ as) : EK X M (⟨nmo, e, kpos⟩ :: kws) Γ (.val R y :: as) := fun H0 G H σ t Q k =>
  of_pk (pk_cons pe_of pk_of) (h H0 G H σ t _ fun v x G1 H1 e1 s1 r1 => by
    subst e1
    exact hr H0 G1 H1 σ (t.step s1) _ fun vs G2 H2 s2 ar => k _ G2 H2 (s1.trans s2) (argsOk_cons (R.mono s2.g r1) ar))
/-- keywords alone; g tells the parameters' order: as' are the arguments in that order -/
theorem ev_callK {kws : List Keyword} {ks : List Str} {as' : List Ent} {g : List Value → List Value → List Value} {gV : List V → List V → List V} (D : Def X x k f fd ps C) (hb : KBinds X.K fd ps ks g gV) (hr : Room k X.A) (ha : EK X M kws Γ as) (hc : C M as' (fun u => u = .val R y)) (hord : ∀ G vs, ArgsOk G vs as → ArgsOk G (gV [] vs) as') (hg : Gl X x := by rfl)
    (hdb : (x == ("__debug__" : Str)) = false := by decide) (hall : (backToKw pos (keywordEach kws X.env)).all (·.1.isSome) = true := by rfl) (hks : (backToKw pos (keywordEach kws X.env)).filterMap (·.1) = ks := by rfl)
    (hpl : ((backTo pos (starEach [] X.env)).any (·.1) || (backToKw pos (keywordEach kws X.env)).any (·.1.isNone)) = false := by rfl) : EV X M (.Call (.Name x p) [] kws pos) Γ R y := fun H0 G H σ t Q k' =>
  of_pe (pe_callK0 (E := E0) D.ok hr hg D.mg D.kp hb pass0 pk_of hall hks hdb hpl) (ha H0 G H σ t _ fun vs G' H' s ar => by
    have z := spC_use (P := fun q => q = y) (Q := Q) (E := E0) hc (s.okk t.ok) (hord G' vs ar) (fun u hu => ⟨y, rfl, hu⟩) fun v z G2 H2 e2 s2 r2 => k' v z G2 H2 e2 (s.trans s2) r2
    rw [List.append_nil] at z
    exact z)
end
end RT

/-! RT8: the law's own call, no guard around; the end of a law row. -/
namespace RT
open PySem L2
open PyProof.Rows (AllBare)
/-- H knows the script alone -/
structure Lone (H : Hp) (a : Addr) (o : Obj) (xs : List V) : Prop where
  at_ : H a = some (.frz o (.lst xs)) ∨ H a = none
  no : ∀ b, b ≠ a → H b = none
section
variable {P : Program} {w : World} {K : PySem.W.Frag} {mg mb : Str → Option Value} {k : Nat} {fa a : Addr} {fd : FuncData} {x : Str} {sp : Sp} {s : Shared} {vs : List Value} {ns : List Int}
theorem law_run (KX : K.In s.heap) (hns : s.heap.Ns mainGlobals mg) (hb : s.heap.Ns builtinsNs mb) (hbb : ∀ x : Str, x ≠ "__name__" → mb x = bootBuiltins x) (hlim : s.heap.NoLimit) (hg : s.gens = #[])
    (ha : s.heap.get? a = some { cls := .type "list", data := .seq vs.toArray }) (hl : ns.length ≤ sizeLine) (rv : Vals (ns.map V.int) vs) (hr : Room k PySem.callerA)
    (F : ∀ base : Heap, K.In base → base.Ns mainGlobals mg → FnG P w K mg base k fa fd [x] sp) (hbind : ∀ (s : Shared) (u : Value), BindsTo s fd ⟨[u], []⟩ [(x, u)])
    (hsp : ∀ H : Hp, SqL K H a (ns.map V.int) → SzOk H → sp [.ref a] H (fun v _ => v = .bl true) E0) {H : Hp} (lone : Lone H a { cls := .type "list", data := .seq vs.toArray } (ns.map V.int)) (hS : SqL K H a (ns.map V.int)) (hK : H a ≠ none → K.lookup a = none) :
    codeAny (model P w) PySem.callerA (.call (.ref fa) ⟨[.ref a], []⟩) (fun r s' => r = .ok (.ret (.bool true)) ∧ OldK s.heap s'.heap ∧ s'.os = s.os ∧ AllBare s'.gens) s := by
  have hok : HOk P w H s.heap := fun b u e => by
    by_cases hab : b = a
    · subst hab
      rcases lone.at_ with z | z
      · rw [z] at e; cases e
        exact ⟨ha, by rw [List.length_map]; exact hl, vs, 0, rv, ha⟩
      · rw [z] at e; cases e
    · rw [lone.no b hab] at e; cases e
  have free : ∀ {b : Addr} {m : Str → Option Value}, s.heap.Ns b m → (hidT s.heap H).Ns b m := fun {b m} h => by
    obtain ⟨o, es, ep, e, d, r⟩ := h
    refine ⟨o, es, ep, hidT_get e ?_, d, r⟩
    by_cases hab : b = a
    · subst hab
      rw [ha] at e; cases e; cases d
    · exact lone.no b hab
  have KB : K.In (hidT s.heap H) := fun b o e => by
    refine hidT_get (KX b o e) ?_
    by_cases hab : b = a
    · subst hab
      cases q : H b with
      | none => rfl
      | some u => rw [hK (by rw [q]; exact fun z => nomatch z)] at e; cases e
    · exact lone.no b hab
  obtain ⟨mc, l1, l2⟩ := hlim
  have e0 : Env0 P w K mg (hidT s.heap H) PySem.callerA [] s H := ⟨rfl, ⟨KB, free hns, ⟨mb, free hb, hbb⟩, ⟨mc, free l1, l2⟩⟩, fun b o e => of_hidT e, Nat.le_of_eq (hidT_size _ _), trivial, (fun b z => nomatch z), hok, PyProof.Rows.AllBare.of_eq hg⟩
  have run := F _ KB (free hns) PySem.callerA [] s H ⟨[.ref a], []⟩ [.ref a] [.ref a] (fun v _ => v = .bl true) hr rfl e0 (hbind s (.ref a)) (.cons rfl .nil) rfl (hsp H hS (szOk_of hok))
  refine codeAny_mono run fun r s' h => ?_
  match r, h with
  | .ok (.ret u), h =>
    obtain ⟨v, H', os, bare, un, hok', r', q⟩ := h
    subst q
    cases r'
    refine ⟨rfl, OldK.of_keep fun b o e => ?_, os, bare⟩
    by_cases hab : b = a
    · subst hab
      rcases lone.at_ with z | z
      · have y := (hok' b _ (un.frzs b _ _ z)).1
        rw [ha] at e; cases e; exact y
      · exact un.keep b o e z (fun q => nomatch q) (by simp)
    · exact un.keep b o e (lone.no b hab) (fun q => nomatch q) (by simp)
end
/-- the end of a law row: the promise of the law's def, no guard around it -/
theorem walk_G {l : PySem.W.OpenLaw} {n k : Nat} {q : Program} {loose : List Str} {XP : (Str → Option Value) → Heap → Prop} {YP : World → Heap → Prop} {d : DefRec} {K : Params → PySem.W.Frag} {sp : PySem.W.Frag → Sp} {x : Str}
    (hn : l.most = some n) (hn2 : n ≤ sizeLine) (hdf : d.params.defaults = []) (hr : Room k PySem.callerA)
    (hY : ∀ (w : World) (h : Heap), YP w h → (K w.params).In h)
    (F : ∀ (w : World) (mg : Str → Option Value) (fa : Addr) (h : Heap), (K w.params).In h → h.Ns mainGlobals mg → mg d.name = some (.ref fa) →
      ∃ fd : FuncData, (∀ (s : Shared) (u : Value), BindsTo s fd ⟨[u], []⟩ [(x, u)]) ∧
        ∀ base : Heap, (K w.params).In base → base.Ns mainGlobals mg → FnG l.prog w (K w.params) mg base k fa fd [x] (sp (K w.params)))
    (hsp : ∀ (K : PySem.W.Frag) (H : Hp) (a : Addr) (ns : List Int), ns.length ≤ n → SqL K H a (ns.map V.int) → SzOk H → sp K [.ref a] H (fun v _ => v = .bl true) E0) :
    PySem.W.WalkO q loose XP YP l.row.toRowW d [] (fun f vs => PySem.call f vs) := by
  refine Att.attach_call hn hdf fun w s₀ s₁ mg mb fa o pm cd doc a vs ns G Y ho hd hcd hmg hobj hints hlen hg => ?_
  have KX := hY w _ Y
  obtain ⟨fd, hb, hF⟩ := F w mg fa _ KX G.T.g hmg
  have rv := vals_ints hints
  have hl : ns.length ≤ sizeLine := Nat.le_trans hlen hn2
  cases hk : (K w.params).lookup a with
  | some ob =>
    have e := KX a ob hk
    rw [hobj] at e; cases e
    exact law_run KX G.T.g G.T.b G.T.builtins G.T.nolimit hg hobj hl rv hr hF hb (fun H hS hz => hsp _ H a ns hlen hS hz) (H := fun _ => none) ⟨.inr rfl, fun _ _ => rfl⟩ (.inr ⟨_, vs.toArray, _, hk, rfl, rfl, rfl, by have := rv.length; rw [List.length_map] at this; rw [List.size_toArray, ← this]; exact hl, rv⟩) fun z => absurd rfl z
  | none =>
    refine law_run KX G.T.g G.T.b G.T.builtins G.T.nolimit hg hobj hl rv hr hF hb (fun H hS hz => hsp _ H a ns hlen hS hz) (H := upd (fun _ => none) a (.frz { cls := .type "list", data := .seq vs.toArray } (.lst (ns.map V.int)))) ⟨.inl upd_same, fun b hb' => upd_ne hb'⟩ (.inl (.inr ⟨_, upd_same⟩)) fun _ => hk
end RT

/-! RT9: texts, dicts. -/
namespace RT
open PySem L2
section
variable {X : Cx} {M N : Md} {Γ : List Ent} {e a b c : Expr} {α β γ : Type} {R : Rp α} {S : Rp β} {x : α} {y : β} {xs : List α} {pos p apos : Pos} {s z : Str} {ss : List Str} {Ps : Str → Prop}
/-! ### texts -/
theorem ev_lenS (hm : X.mg "len" = none) (ha : EV X M e Γ rStr s) (hz : s.length ≤ 16777216) (hg : Gl X "len" := by rfl) (hs : starEach [e] X.env = (false, eval e X.env) :: starEach [] X.env := by rfl) (hpl : (backTo pos (starEach [] X.env)).any (·.1) = false := by rfl) : EV X M (.Call (.Name "len" p) [e] [] pos) Γ rInt (s.length : Int) :=
  ev_B call_len hm PySem.boot_len (ea_cons ha ea_nil hs) (fun _ h => by
    subst h
    intro G H vs o ar Q k
    obtain ⟨v, rfl, h2⟩ := args1 ar
    exact ⟨v, s.length, rfl, by rw [show v = V.str s from h2]; exact ⟨by rw [sizeLine_eq]; exact hz, rfl⟩, k _ _ G H rfl (Step.refl o) rfl⟩) hg (by decide) (by decide) hs hpl
/-- one sign in a text -/
def inS (x z : Str) : Bool := decide (x.cps.getD 0 0 ∈ z.cps.toList)
theorem sign_eq {x : Str} (h : x.cps.size = 1) : x = ⟨#[x.cps.getD 0 0]⟩ := by
  obtain ⟨l⟩ := x
  obtain ⟨l⟩ := l
  match l, h with
  | [c], _ => rfl
theorem ev_inS (ha : EV X M a Γ rStr s) (hb : EV X M b Γ rStr z) (h1 : s.cps.size = 1) (hm : behindInMarks .In b = false := by rfl) : EV X M (.Compare a [.In] [b] pos) Γ rBool (inS s z) :=
  ev_op2 (pe_cmpR op_in_sign pe_of pe_of hm) ha hb fun _ _ e1 e2 => by
    subst e1; subst e2
    intro G H v w o r1 r2 Q k
    exact ⟨_, _, by rw [show v = V.str _ from r1, ← sign_eq h1], r2, k _ _ G H rfl (Step.refl o) rfl⟩
theorem ev_lower (ha : EV X M a Γ rStr s) (hz : s.length ≤ 1000) (hbase : attributeBase a "lower" X.env (eval a X.env) = eval a X.env := by rfl) (hline : (apos.endLine == pos.line) = true := by rfl) : EV X M (.Call (.Attribute a "lower" apos) [] [] pos) Γ rStr (Txt.lower s) := fun H0 G H σ t Q k =>
  of_pe (pe_lower pe_of hbase hline) (ha H0 G H σ t _ fun v x G1 H1 e1 s1 r1 => by
    subst e1
    exact ⟨⟨_, r1⟩, _, r1, rfl, by omega, k _ _ G1 H1 rfl s1 rfl⟩)
theorem ev_upper (ha : EV X M a Γ rStr s) (hz : s.length ≤ 1000) (hbase : attributeBase a "upper" X.env (eval a X.env) = eval a X.env := by rfl) (hline : (apos.endLine == pos.line) = true := by rfl) : EV X M (.Call (.Attribute a "upper" apos) [] [] pos) Γ rStr (Txt.upper s) := fun H0 G H σ t Q k =>
  of_pe (pe_upper pe_of hbase hline) (ha H0 G H σ t _ fun v x G1 H1 e1 s1 r1 => by
    subst e1
    exact ⟨⟨_, r1⟩, _, r1, rfl, by omega, k _ _ G1 H1 rfl s1 rfl⟩)
theorem ev_joinLP {Pl : List Str → Prop} (ha : EV X M a Γ rStr s) (hb : EVt X M N b Γ (rLst rStr) Pl) (hz : ∀ ss, Pl ss → (ss.map (·.length)).sum + ss.length * s.length ≤ 16777216) (hs : starEach [b] X.env = [(false, eval b X.env)] := by rfl) (hbase : attributeBase a "join" X.env (eval a X.env) = eval a X.env := by rfl) (hline : (apos.endLine == pos.line) = true := by rfl) (hF : M.F = N.F := by first | rfl | assumption) :
    EVt X M N (.Call (.Attribute a "join" apos) [b] [] pos) Γ rStr (fun z => ∃ ss, Pl ss ∧ z = Txt.join s ss) := fun H0 G H σ t Q k =>
  of_pe (pe_join pe_of pe_of hs hbase hline) (ha H0 G H σ t _ fun v x G1 H1 e1 s1 r1 => by
    subst e1
    refine ⟨⟨_, r1⟩, hb H0 G1 H1 σ (t.step s1) _ fun w ss G2 H2 hp s2 r2 => ?_⟩
    obtain ⟨q, us, rfl, h2, h3⟩ := r2
    rw [paired_strs h3] at h2
    exact ⟨_, q, ss, r1, rfl, .inl (.inl (rd_up s2.gh h2)), hz ss hp, k _ _ G2 H2 ⟨ss, hp, rfl⟩ (s1.trans2 hF s2) rfl⟩)

/-! ### dicts whose keys are texts -/
variable {kvs : List (Str × α)}
theorem valV_paired {G : Hp} : ∀ {l : List (Key × V)} {kvs : List (Str × α)} {s : Str}, Paired (fun (kv : Key × V) (p : Str × α) => kv.1 = .inr p.1 ∧ R.rel G kv.2 p.2) l kvs → (∀ x, kvs.lookup s = some x → ∃ v, valV l (Sum.inr s) = some v ∧ R.rel G v x) ∧ (kvs.lookup s = none → valV l (Sum.inr s) = none)
  | _, _, s, .nil => ⟨fun x h => by simp at h, fun _ => rfl⟩
  | (k, v) :: l, (k', y) :: kvs, s, .cons h t => by
    obtain ⟨h1, h2⟩ := valV_paired (s := s) t
    obtain ⟨hk, hr⟩ := h
    dsimp only at hk hr
    subst hk
    rw [List.lookup_cons]
    by_cases e : s = k'
    · subst e
      rw [valV_pos rfl]
      simp only [beq_self_eq_true]
      exact ⟨fun x hx => by cases hx; exact ⟨v, rfl, hr⟩, fun hx => by cases hx⟩
    · have e1 : (s == k') = false := by simpa using e
      rw [valV_neg (fun q => e (Sum.inr.inj q).symm), e1]
      exact ⟨h1, h2⟩
theorem dget_of {G H : Hp} {q : Addr} {l : List (Key × V)} {s : Str} (h : Rd G q (.dK l)) (e : Same G H) : DGet H q (.str s) (valV l (Sum.inr s)) := .inl ⟨l, .inr s, rd_up e h, rfl, rfl⟩
theorem ev_dget (hu : X.A.units + 1 < cLine) (ha : EV X M a Γ (rDic R) kvs) (hb : EV X M b Γ rStr s) (hx : kvs.lookup s = some x) (hs : NoSl b := by exact fun _ _ => rfl) : EV X M (.Subscript a b pos) Γ R x := fun H0 G H σ t Q k =>
  of_pe (pe_dget hu pe_of pe_of hs) (ha H0 G H σ t _ fun v d G1 H1 e1 s1 r1 => hb H0 G1 H1 σ (t.step s1) _ fun w u G2 H2 e2 s2 r2 => by
    subst e1; subst e2
    obtain ⟨q, l, rfl, h2, h3⟩ := rDic_rd ((rDic R).mono s2.g r1)
    obtain ⟨v', h4, h5⟩ := (valV_paired h3).1 x hx
    refine ⟨q, v', rfl, ?_, k v' x G2 H2 rfl (s1.trans s2) h5⟩
    rw [show w = V.str u from r2, ← h4]
    exact dget_of h2 s2.gh)
theorem ev_din (hu : X.A.units + 1 < cLine) (ha : EV X M a Γ rStr s) (hb : EV X M b Γ (rDic R) kvs) (hm : behindInMarks .In b = false := by rfl) : EV X M (.Compare a [.In] [b] pos) Γ rBool (kvs.lookup s).isSome := fun H0 G H σ t Q k =>
  of_pe (pe_cmp (pc_din hu pe_of pe_of) hm) (ha H0 G H σ t _ fun v d G1 H1 e1 s1 r1 => hb H0 G1 H1 σ (t.step s1) _ fun w u G2 H2 e2 s2 r2 => by
    subst e1; subst e2
    obtain ⟨q, l, rfl, h2, h3⟩ := rDic_rd r2
    refine ⟨q, valV l (Sum.inr d), rfl, by rw [show v = V.str d from r1]; exact dget_of h2 s2.gh, k _ _ G2 H2 rfl (s1.trans s2) ?_⟩
    show V.bl _ = V.bl _
    cases e : u.lookup d with
    | none => rw [(valV_paired h3).2 e]; rfl
    | some y =>
      obtain ⟨v', h4, _⟩ := (valV_paired h3).1 y e
      rw [h4]; rfl)
theorem ev_dnotin (hu : X.A.units + 1 < cLine) (ha : EV X M a Γ rStr s) (hb : EV X M b Γ (rDic R) kvs) (hm : behindInMarks .NotIn b = false := by rfl) : EV X M (.Compare a [.NotIn] [b] pos) Γ rBool (!(kvs.lookup s).isSome) := fun H0 G H σ t Q k =>
  of_pe (pe_cmp (pc_dnotin hu pe_of pe_of) hm) (ha H0 G H σ t _ fun v d G1 H1 e1 s1 r1 => hb H0 G1 H1 σ (t.step s1) _ fun w u G2 H2 e2 s2 r2 => by
    subst e1; subst e2
    obtain ⟨q, l, rfl, h2, h3⟩ := rDic_rd r2
    refine ⟨q, valV l (Sum.inr d), rfl, by rw [show v = V.str d from r1]; exact dget_of h2 s2.gh, k _ _ G2 H2 rfl (s1.trans s2) ?_⟩
    show V.bl _ = V.bl _
    cases e : u.lookup d with
    | none => rw [(valV_paired h3).2 e]; rfl
    | some y =>
      obtain ⟨v', h4, _⟩ := (valV_paired h3).1 y e
      rw [h4]; rfl)
/-- dict(pairs), no key twice -/
theorem mergeK_new : ∀ {more kvs : List (Key × V)}, (more.map (·.1)).Nodup → (∀ k ∈ more.map (·.1), valV kvs k = none) → mergeK kvs more = kvs ++ more
  | [], kvs, _, _ => by simp [mergeK]
  | (k, v) :: more, kvs, nd, h => by
    show mergeK (putK kvs k v) more = _
    have h0 : valV kvs k = none := h k (by simp)
    rw [putK_new v h0, mergeK_new (List.nodup_cons.mp (by simpa using nd)).2 fun j hj => ?_]
    · simp
    · rw [valV_snoc k j v kvs h0]
      have ne : j ≠ k := fun q => (List.nodup_cons.mp (show (k :: more.map (·.1)).Nodup by simpa using nd)).1 (q ▸ hj)
      rw [if_neg ne]
      exact h j (by simp; exact .inr (by simpa using hj))
/-- a new thing is locked for ever -/
def rLk (r : List V → Hp → VK → Prop) : List V → Hp → VK → Prop := fun vs H Q => r vs H fun v H1 => ∃ d u, v = .ref d ∧ H1 d = some u ∧ Mut (some u) ∧ ∀ od, Q v (upd H1 d (.frz od u))
theorem cr_lock {r : List V → Hp → VK → Prop} {cv : Value} (h : CallR X cv r) : CallR X cv (rLk r) := fun pins s σ H vs us Q I rv q =>
  thn (h pins s σ H vs us _ I rv q) fun u s1 ⟨x, H1, I1, r1, d, w, ex, hd, mu, q1⟩ => by
    obtain ⟨od, I2⟩ := I1.lock hd mu
    exact ⟨x, _, I2, r1, q1 od⟩
theorem pe_lk {t : TE} (h : PE X e t) : PE X e (fun σ H Q => t σ H fun v H1 => ∃ d u, v = .ref d ∧ H1 d = some u ∧ Mut (some u) ∧ ∀ od, Q v (upd H1 d (.frz od u))) := ⟨fun pins s σ H Q I q =>
  thn (h.run pins s σ H _ I q) fun u s1 ⟨x, H1, I1, r1, d, w, ex, hd, mu, q1⟩ => by
    obtain ⟨od, I2⟩ := I1.lock hd mu
    exact ⟨x, _, I2, r1, q1 od⟩⟩
theorem upd_upd {H : Hp} {p : Addr} {u w : HO} : upd (upd H p u) p w = upd H p w := funext fun a => by
  by_cases h : a = p
  · rw [h, upd_same, upd_same]
  · rw [upd_ne h, upd_ne h, upd_ne h]
theorem ev_dictP {Pl : List (Str × α) → Prop} (hm : X.mg "dict" = none) (hcalm : X.calm = true) (ha : EVt X M N e Γ (rLst (rPair rStr R)) Pl) (hn : ∀ l, Pl l → (l.map (·.1)).Nodup) (hg : Gl X "dict" := by rfl) (hs : starEach [e] X.env = (false, eval e X.env) :: starEach [] X.env := by rfl) (hpl : (backTo pos (starEach [] X.env)).any (·.1) = false := by rfl) (hF : M.F = N.F := by first | rfl | assumption) : EVt X M N (.Call (.Name "dict" p) [e] [] pos) Γ (rDic R) Pl :=
  ev_Ty (cr_lock (call_dictP hcalm)) hm (by decide +kernel) (ea_consP ha ea_nil hs hF rfl) (fun _ h => by
    obtain ⟨l, r, h1, h2, h3⟩ := h
    subst h2 h3
    intro G H vs o ar Q k
    obtain ⟨v, rfl, q, us, rfl, h2, h3⟩ := args1 ar
    have split : ∀ {us : List V} {l : List (Str × α)}, Paired ((rPair rStr R).rel G) us l → ∃ (ps : List Addr) (kvs : List (Key × V)), us = ps.map V.ref ∧ Paired (fun q kv => SqT X.K H q [kV kv.1, kv.2]) ps kvs ∧ Paired (fun (kv : Key × V) (p : Str × α) => kv.1 = .inr p.1 ∧ R.rel G kv.2 p.2) kvs l ∧ kvs.map (·.1) = l.map fun p => Sum.inr p.1 := by
      intro us l h
      induction h with
      | nil => exact ⟨[], [], rfl, .nil, .nil, rfl⟩
      | cons h t ih =>
        obtain ⟨ps, kvs, e1, e2, e3, e4⟩ := ih
        obtain ⟨b, v1, v2, rfl, r1, r2, r3⟩ := h
        rename_i pr _ _
        refine ⟨b :: ps, (.inr pr.1, v2) :: kvs, by rw [e1]; rfl, .cons ?_ e2, .cons ⟨rfl, r3⟩ e3, by simp [e4]⟩
        rw [show v1 = V.str pr.1 from r2] at r1
        exact .inl (rd_up o.gh r1)
    obtain ⟨ps, kvs, e1, e2, e3, e4⟩ := split h3
    subst e1
    refine ⟨q, ps, kvs, rfl, .inl (rd_up o.gh h2), e2, fun d hd => ?_⟩
    have nd : (kvs.map (·.1)).Nodup := by
      rw [e4]
      have := hn l h1
      rw [show (l.map fun p => (Sum.inr p.1 : Key)) = (l.map (·.1)).map Sum.inr by simp]
      unfold List.Nodup at this ⊢
      rw [List.pairwise_map]
      exact this.imp fun h q => h (Sum.inr.inj q)
    rw [mergeK_new nd fun _ _ => rfl, List.nil_append]
    exact ⟨d, .dK kvs, rfl, upd_same, trivial, fun od => by
      rw [upd_upd]
      exact k _ l _ _ h1 (Step.new (u := .frz od (.dK kvs)) o hd trivial) ⟨d, od, kvs, rfl, upd_same, paired_imp (fun _ _ q => ⟨q.1, R.mono (same_upd (o.gnone hd)) q.2⟩) e3⟩⟩) hg (by decide) (by decide) hs hpl
end
end RT

/-! RT10: dict comprehensions, slices, sorted, pop, isinstance. -/
namespace RT
open PySem L2
theorem Step.chgU {M : Md} {G0 H0 G H : Hp} {p : Addr} {u : HO} (s : Step M G0 H0 G H) (t : Okk M G H) (h3 : G p = none) (h4 : p ∉ M.F) (h5 : H0 p = none) (hz : SzU u) (hx : ∀ φ, H p ≠ some (.ext φ) := by first | exact notExtL (by assumption) | exact notExtK (by assumption) | exact notExtF (by assumption) | exact upd_notExt (fun _ z => nomatch z)) : Step M G0 H0 G (upd H p u) :=
  ⟨s.g, same_updR s.gh h3, szOk_upd s.sz hz, fun b o hb e => by rw [upd_ne (ne_of_none e h5)]; exact s.h b o hb e, s.nw, M.up t.i (Same.refl _) (same_updR s.gh h3) (fun b hb => upd_ne fun z => h4 (by rw [← z]; exact hb)) (fun b φ z => by rw [upd_ne fun q => hx φ (by rw [← q]; exact z)]; exact z),
   fun b hb => by rw [upd_ne fun z => h4 (by rw [← z]; exact hb)]; exact s.f b hb⟩
/-- a new object stands for ever from here on -/
theorem Step.frz {M : Md} {G0 H0 G H : Hp} {p : Addr} {u : HO} (s : Step M G0 H0 G H) (h3 : G p = none) (h5 : H0 p = none) (e : H p = some u) : Step M G0 H0 (upd G p u) H ∧ Same G (upd G p u) := by
  have g1 : Same G (upd G p u) := same_upd h3
  have g2 : Same (upd G p u) H := fun b v q => by
    by_cases hb : b = p
    · subst hb; rw [upd_same] at q; cases q; exact e
    · rw [upd_ne hb] at q; exact s.gh b v q
  exact ⟨⟨s.g.trans g1, g2, s.sz, s.h, fun b hb q => by rw [upd_ne fun z => hb (by rw [z]; exact h5)]; exact s.nw b hb q, M.up s.i g1 g2 (fun _ _ => rfl) (fun _ _ z => z), s.f⟩, g1⟩
section
variable {X : Cx} {M : Md} {Γ : List Ent} {α β γ : Type} {R : Rp α} {S : Rp β} {P : List α → Prop} {tg iter kx vx : Expr} {ifs : List Expr} {pos : Pos} {xs : List α} {f : α → List Ent → List Ent} {sl : List Nat}
theorem ev_dc {scope : Scope} {own : List (Str × Nat)} {pb : α → Bool} {kf : α → Str} {vf : α → β} (hc : X.calm = true) (hN : X.N.Nodup) (it : ITv X M tg iter Γ R xs) (ok : BlkOk X.N X.env.scope scope own) (hsl : ∀ j ∈ sl, j ∈ own.map (·.2)) (hnd : ((xs.filter pb).map kf).Nodup)
    (tgv : ∀ (s : Shared) (H : Hp) (C : Addr) (cl : List (Str × Addr)) (fp : List Addr) (M : Md), TGv (X.blk s H scope (compEnvC scope cl C X.env) fp) M tg R f sl)
    (ht : ∀ (s : Shared) (H : Hp) (C : Addr) (cl : List (Str × Addr)) (fp : List Addr) x, x ∈ xs → TSv (X.blk s H scope (compEnvC scope cl C X.env) fp) M ifs (f x (wipeE Γ (own.map (·.2)))) (pb x))
    (hk : ∀ (s : Shared) (H : Hp) (C : Addr) (cl : List (Str × Addr)) (fp : List Addr) x, x ∈ xs → pb x = true → EV (X.blk s H scope (compEnvC scope cl C X.env) fp) M kx (f x (wipeE Γ (own.map (·.2)))) rStr (kf x))
    (he : ∀ (s : Shared) (H : Hp) (C : Addr) (cl : List (Str × Addr)) (fp : List Addr) x, x ∈ xs → pb x = true → EV (X.blk s H scope (compEnvC scope cl C X.env) fp) M vx (f x (wipeE Γ (own.map (·.2)))) S (vf x))
    (hs : ∀ x, foldedSetIterable iter X.env x = pure x := by intro _; rfl) : EV X M (.DictComp kx vx [⟨tg, iter, ifs, 0⟩] scope pos) Γ (rDic S) ((xs.filter pb).map fun x => (kf x, vf x)) := fun H0 G H σ t Q k => by
  obtain ⟨wi, hi, hw⟩ := it
  refine of_pe (pe_lk (pe_dc (g := gBlk X scope tg) (tt := ttBlk X scope ifs) (tk := teBlk X scope kx) (tv := teBlk X scope vx) hc hN hi ok
    (fun s H1 C cl fp => ⟨fun pins s' σ' H' v u Q' I r h => (h s H1 C cl fp).run pins s' u I r⟩) (fun s H1 C cl fp => ⟨fun pins s' σ' H' Q' I h => (h s H1 C cl fp).run pins s' I⟩) (fun s H1 C cl fp => ⟨fun pins s' σ' H' Q' I h => (h s H1 C cl fp).run pins s' I⟩) (fun s H1 C cl fp => ⟨fun pins s' σ' H' Q' I h => (h s H1 C cl fp).run pins s' I⟩) hs))
    (hw H0 G H σ t _ fun J xs' G1 H1 px hz s1 tw D hD => ?_)
  subst px
  obtain ⟨Gd, Y, g1, wk, g2⟩ := tw M
  have o1 := s1.okk t.ok
  have t1 := t.step s1
  have dF := o1.nf hD
  have new := Step.own (u := .dK []) o1 hD trivial
  let Pv : Nat → Hp → Prop := fun i H2 => ∃ G2 kvs, Step M G1 H1 G2 H2 ∧ H2 D = some (.dK kvs) ∧ G2 D = none ∧ Paired (fun (kv : Key × V) (p : Str × β) => kv.1 = .inr p.1 ∧ S.rel G2 kv.2 p.2) kvs (((xs'.take i).filter pb).map fun x => (kf x, vf x))
  have pv0 : Pv 0 (upd H1 D (.dK [])) := ⟨G1, [], new, upd_same, o1.gnone hD, .nil⟩
  have fin : ∀ H2, Pv xs'.length H2 → ∃ d u, V.ref D = .ref d ∧ H2 d = some u ∧ Mut (some u) ∧ ∀ od, Q (.ref D) (upd H2 d (.frz od u)) := fun H2 ⟨G2, kvs, s2, h2, gD, py⟩ => by
    rw [List.take_length] at py
    have S2 := s1.trans s2
    refine ⟨D, _, rfl, h2, trivial, fun od => ?_⟩
    have S2' := S2.chgU (u := .frz od (.dK kvs)) ((s2.okk o1)) gD dF (s1.fresh hD) trivial
    obtain ⟨S3, g3⟩ := S2'.frz gD (s1.fresh hD) upd_same
    exact k (.ref D) _ _ _ rfl S3 ⟨D, od, kvs, rfl, upd_same, paired_imp (fun _ _ q => ⟨q.1, S.mono g3 q.2⟩) py⟩
  have step : ∀ i v H2 H3, i < xs'.length → Pv i H2 → Y i H2 v H3 → gBlk X scope tg v (L2.wipe σ (own.map (·.2))) H3 fun σ2 H2 => L2.wipe σ2 (own.map (·.2)) = L2.wipe σ (own.map (·.2)) ∧ ttBlk X scope ifs σ2 H2 fun b H3 =>
      if b = true then teBlk X scope kx σ2 H3 fun y H4 => teBlk X scope vx σ2 H4 fun z H5 => ∃ kvs k, y = kV k ∧ H5 D = some (.dK kvs) ∧ kvs.length < sizeLine ∧ Pv (i + 1) (upd H5 D (.dK (putK kvs k z))) else Pv (i + 1) H3 := fun i v H2 H3 hi hPv hy => by
    obtain ⟨G2, kvs, s2, h2, gD, py⟩ := hPv
    obtain ⟨G3, x, hx, s3, r3⟩ := g2 i H2 v H3 G2 s2.g (s2.okk o1) hy
    have S3 := s2.trans s3
    have hxm : x ∈ xs' := List.mem_of_getElem? hx
    have nD : H2 D ≠ none := by rw [h2]; exact fun z => nomatch z
    intro s0 H00 C cl fp
    refine tgv s0 H00 C cl fp M H0 G3 H3 (L2.wipe σ (own.map (·.2))) (wipeE Γ (own.map (·.2))) v x ((t1.step S3).wipe _) r3 _ ?_
    intro σ4 t4 hl4 ha4
    refine And.intro ?_ ?_
    · rw [wipe_eq (τ := L2.wipe σ (own.map (·.2))) hl4 fun j hj => ha4 j fun z => hj (hsl j z)]
      exact wipe_eq (wipe_length _ _) fun j hj => wipe_at hj
    · intro s0 H00 C cl fp
      refine ht s0 H00 C cl fp x hxm H0 G3 H3 σ4 t4 _ fun G5 H5 s5 => ?_
      have fl : (xs'.take (i + 1)).filter pb = (xs'.take i).filter pb ++ (if pb x = true then [x] else []) := by
        rw [List.take_add_one, hx, List.filter_append]
        cases hb : pb x <;> simp [hb]
      cases hb : pb x with
      | false =>
        rw [if_neg Bool.false_ne_true]
        rw [hb, if_neg Bool.false_ne_true, List.append_nil] at fl
        exact ⟨G5, kvs, S3.trans s5, (s3.trans s5).h D _ dF h2, (s3.trans s5).nw D nD gD, by rw [fl]; exact paired_imp (fun _ _ q => ⟨q.1, S.mono (s3.trans s5).g q.2⟩) py⟩
      | true =>
        rw [if_pos rfl]
        rw [hb, if_pos rfl] at fl
        intro s0 H00 C cl fp
        refine hk s0 H00 C cl fp x hxm hb H0 G5 H5 σ4 (t4.step s5) _ fun w y G6 H6 ey s6 r6 => ?_
        intro s0 H00 C cl fp
        refine he s0 H00 C cl fp x hxm hb H0 G6 H6 σ4 ((t4.step s5).step s6) _ fun w2 y2 G7 H7 ey2 s7 r7 => ?_
        subst ey; subst ey2
        have sA := ((s3.trans s5).trans s6).trans s7
        have S7 := s2.trans sA
        have g7 : G7 D = none := sA.nw D nD gD
        have hkl : kvs.length = ((xs'.take i).filter pb).length := by have := paired_len py; simpa using this
        have hlen : kvs.length < sizeLine := by
          have h1 := List.length_filter_le pb (xs'.take i)
          rw [List.length_take] at h1
          omega
        have keys : kvs.map (·.1) = ((xs'.take i).filter pb).map fun x => Sum.inr (kf x) := by
          have q : ∀ {kvs : List (Key × V)} {l : List (Str × β)}, Paired (fun (kv : Key × V) (p : Str × β) => kv.1 = .inr p.1 ∧ S.rel G2 kv.2 p.2) kvs l → kvs.map (·.1) = l.map fun p => Sum.inr p.1 := by
            intro kvs l h
            induction h with
            | nil => rfl
            | cons h t ih => simp [h.1, ih]
          rw [q py]; simp
        have fresh : valV kvs (Sum.inr (kf x)) = none := by
          cases e : valV kvs (Sum.inr (kf x)) with
          | none => rfl
          | some u =>
            have hm := valV_in e
            rw [keys] at hm
            obtain ⟨x', hx', ek⟩ := List.mem_map.mp hm
            have ek := Sum.inr.inj ek
            have tk : (xs'.take (i + 1)).filter pb ++ ((xs'.drop (i + 1)).filter pb) = xs'.filter pb := by rw [← List.filter_append, List.take_append_drop]
            have nd2 : (((xs'.take (i + 1)).filter pb).map kf).Nodup := by
              have := hnd
              rw [← tk, List.map_append] at this
              exact (List.nodup_append.mp this).1
            rw [fl, List.map_append] at nd2
            have := (List.nodup_append.mp nd2).2.2 (kf x') (List.mem_map.mpr ⟨x', hx', rfl⟩) (kf x) (by simp)
            exact absurd ek this
        refine ⟨kvs, .inr (kf x), by rw [show w = V.str (kf x) from r6]; rfl, sA.h D _ dF h2, hlen, G7, putK kvs (.inr (kf x)) w2, S7.chgU (S7.okk o1) g7 dF hD trivial (notExtK (sA.h D _ dF h2)), upd_same, g7, ?_⟩
        rw [putK_new w2 fresh, fl, List.map_append]
        exact Paired.snoc (paired_imp (fun _ _ q => ⟨q.1, S.mono sA.g q.2⟩) py) ⟨rfl, r7⟩
  refine ⟨fun i m H => m = xs'.length - i ∧ i ≤ xs'.length ∧ Pv i H, ⟨xs'.length, by simp, Nat.zero_le _, pv0⟩, ?_⟩
  rintro i m H2 ⟨rfl, hi', p⟩
  have q : Gd H2 := by obtain ⟨G2, _, s2, _⟩ := p; exact g1 G2 H2 s2.g s2.gh
  by_cases hlt : i < xs'.length
  · exact .inr ⟨wk.goes i H2 hlt q, Pv (i + 1), fun H' p' => ⟨xs'.length - (i + 1), by omega, rfl, hlt, p'⟩, fun x H' y => step i x H2 H' hlt p (wk.yields i H2 x H' hlt q y)⟩
  · have e : i = xs'.length := by omega
    subst e
    exact .inl ⟨wk.stops H2 q, fin H2 p⟩
/-- a dict, key by key -/
theorem it_dic {kvs : List (Str × α)} {e : Expr} (hz : kvs.length ≤ 16777216) (h : EV X M e Γ (rDic R) kvs) : ITv X M tg e Γ rStr (kvs.map (·.1)) := ⟨_, pi_keys pe_of, fun H0 G H σ t K k =>
  h H0 G H σ t _ fun v xs G' H' px s r => by
    subst px
    obtain ⟨a, o, l, rfl, h2, h3⟩ := r
    have hl : l.length = xs.length := paired_len h3
    refine ⟨a, o, rfl, .inl ⟨l, s.gh _ _ h2, k _ (xs.map (·.1)) G' H' rfl (by rw [List.length_map, sizeLine_eq]; exact hz) s fun M' => ⟨fun H => H a = some (.frz o (.dK l)), _, fun G1 H1 g1 g2 => g2 _ _ (g1 _ _ h2), by rw [List.length_map, ← hl]; exact walk_keys, fun i H1 v H2 G1 g1 o' y => ?_⟩⟩⟩
    obtain ⟨rfl, k', v', hk, rfl⟩ := y
    obtain ⟨p, h4, h5⟩ := paired_at' h3 hk
    exact ⟨G1, p.1, by rw [List.getElem?_map, h4]; rfl, Step.refl o', by have e : k' = Sum.inr p.1 := h5.1; rw [e]; rfl⟩⟩
end
end RT

/-! RT11: enumerate and zip over lists, tuples and texts in any mixture. -/
namespace RT
open PySem L2 PySem.Spec
open PyProof.Rows hiding St
/-- what an iterator goes over -/
inductive Sk where
  | lst (a : Addr)
  | tup (a : Addr)
  | txt (z : Str)
def Sk.v : Sk → V
  | .lst a => .ref a
  | .tup a => .ref a
  | .txt z => .str z
def Sk.has (K : PySem.W.Frag) (H : Hp) (xs : List V) : Sk → Prop
  | .lst a => SqL K H a xs
  | .tup a => SqT K H a xs
  | .txt z => xs = (signs z).map V.str
def Sk.cells : Sk → List Addr
  | .lst a => [a]
  | .tup a => [a]
  | .txt _ => []
def Sk.st (it : Addr) (i : Nat) (h : Heap) : Sk → Prop
  | .lst a => h.IsListIter it a i
  | .tup a => h.IsTupleIter it a i
  | .txt z => ∃ t, h.IsStrIter it (strIterType z) z t i
section
variable {X : Cx} {pins : List (Addr × Obj)} {σ : L2.St} {H : Hp} {s : Shared} {k : Sk} {it : Addr} {i : Nat} {xs ys : List V} {h h' : Heap}
theorem Sk.obj (st : k.st it i h) : ∃ o, h.get? it = some o ∧ ∀ v, o.data ≠ .cell v := by
  cases k with
  | lst a => obtain ⟨o, e, _, d⟩ := st; exact ⟨o, e, fun v q => by rw [d] at q; cases q⟩
  | tup a => obtain ⟨o, e, _, d⟩ := st; exact ⟨o, e, fun v q => by rw [d] at q; cases q⟩
  | txt z => obtain ⟨t, o, e, _, d⟩ := st; exact ⟨o, e, fun v q => by rw [d] at q; cases q⟩
theorem Sk.at (st : k.st it i h) (e : ∀ o, h.get? it = some o → h'.get? it = some o) : k.st it i h' := by
  cases k with
  | lst a => exact st.at e
  | tup a => exact st.at e
  | txt z => obtain ⟨t, o, q, r⟩ := st; exact ⟨t, o, e o q, r⟩
theorem Sk.inj (I : Inv X pins σ H s) (a : k.has X.K H xs) (b : k.has X.K H ys) : xs = ys := by
  cases k with
  | lst _ => exact I.list_inj a b
  | tup _ => exact I.tuple_inj a b
  | txt _ => exact Eq.trans a (Eq.symm b)
theorem Sk.lt (I : Inv X pins σ H s) (a : k.has X.K H xs) : ∀ b ∈ k.cells, b < s.heap.objs.size := by
  cases k with
  | lst c =>
    obtain ⟨_, _, p, _⟩ := I.list a
    intro b hb
    rw [show b = c by simpa [Sk.cells] using hb]
    exact p.lt
  | tup c =>
    obtain ⟨_, _, ⟨_, e, _⟩, _⟩ := I.tuple a
    intro b hb
    rw [show b = c by simpa [Sk.cells] using hb]
    exact Heap.lt_size e
  | txt z => intro b hb; simp [Sk.cells] at hb
theorem vals_at' : ∀ {xs : List V} {us : List Value} {j : Nat} {u : Value}, Vals xs us → us[j]? = some u → ∃ x, xs[j]? = some x ∧ RelV x u
  | _, _, _, _, .nil, h => by simp at h
  | _, _, 0, _, .cons r _, h => by simp at h; subst h; exact ⟨_, rfl, r⟩
  | _, _, j + 1, u, .cons _ t, h => by
    obtain ⟨x, a, b⟩ := vals_at' t (j := j) (by simpa using h)
    exact ⟨x, by simpa using a, b⟩
/-- what its iterator hands out -/
theorem Sk.draws {A : Around} (hh : A.handled = none) (I : Inv X pins σ H s) (hx : k.has X.K H xs) (hne : it ∉ k.cells) (st : k.st it i s.heap) : ∃ (P : Nat → Value → Prop) (S : Nat → Heap → Prop), Draws X.prog X.w A it (it :: k.cells) xs.length P S ∧ S i s.heap ∧
    (∀ j u, P j u → ∃ x, xs[j]? = some x ∧ RelV x u) ∧ ∀ j h, S j h → k.st it j h := by
  cases k with
  | lst a =>
    obtain ⟨its, rv, p, _⟩ := I.list hx
    have D := Draws.list (prog := X.prog) (w := X.w) (A := A) hh it a (fun e => hne (by simp [Sk.cells, e])) its.toArray
    rw [List.size_toArray, ← rv.length] at D
    refine ⟨_, _, D, ⟨st, p.isList⟩, fun j u hu => ?_, fun j h q => q.1⟩
    exact vals_at' rv (by simpa using hu)
  | tup a =>
    obtain ⟨its, rv, p, _⟩ := I.tuple hx
    have D := Draws.tuple (prog := X.prog) (w := X.w) (A := A) hh it a (fun e => hne (by simp [Sk.cells, e])) its.toArray
    rw [List.size_toArray, ← rv.length] at D
    refine ⟨_, _, D, ⟨st, p⟩, fun j u hu => ?_, fun j h q => q.1⟩
    exact vals_at' rv (by simpa using hu)
  | txt z =>
    obtain ⟨t, st⟩ := st
    have D := Draws.text (prog := X.prog) (w := X.w) (A := A) hh it z t
    have hl : xs.length = z.cps.size := by rw [show xs = _ from hx]; simp [signs]
    rw [← hl] at D
    refine ⟨_, _, D, st, fun j u ⟨c, t', e, q⟩ => ⟨.str ⟨#[c]⟩, by rw [show xs = _ from hx]; simp [signs, e], t', q⟩, fun j h q => ⟨t, q⟩⟩
theorem Sk.begins {u : Value} (I : Inv X pins σ H s) (hx : k.has X.K H xs) (r : RelV k.v u) : ∃ (o : Obj) (Hh : Heap → Prop), Begins u o Hh ∧ Hh s.heap ∧ ∀ h it, h.get? it = some o → k.st it 0 h := by
  cases k with
  | lst a =>
    cases r
    obtain ⟨its, rv, p, _⟩ := I.list hx
    exact ⟨_, _, begins_list a its.toArray, p.isList, fun h it e => ⟨_, e, rfl, rfl⟩⟩
  | tup a =>
    cases r
    obtain ⟨its, rv, p, _⟩ := I.tuple hx
    exact ⟨_, _, begins_tuple a its.toArray, p, fun h it e => ⟨_, e, rfl, rfl⟩⟩
  | txt z =>
    obtain ⟨t, rfl⟩ := r
    exact ⟨_, _, begins_text z t, trivial, fun h it e => ⟨t, _, e, rfl, rfl⟩⟩
end
/-! ### enumerate -/
set_option maxHeartbeats 1000000 in
theorem meets_enum1 {v : Value} {o : Obj} {H : Heap → Prop} (B : Begins v o H) :
    PySem.Meets (Builtin.«enumerate.__new__» ⟨[.type "enumerate", v], []⟩) (fun _ R s => H s.heap ∧
      R (.ok (.ret (.ref (s.heap.push o).objs.size))) { s with heap := (s.heap.push o).push { cls := .type "enumerate", data := .fields #[.none, .bool false, .ref s.heap.objs.size, rawInt 0, .none, .none] } }) :=
  .of_wp fun prog w A R s h => by
    obtain ⟨hp, g, d, tk, os⟩ := s; obtain ⟨h1, h⟩ := h
    have hsub := sub_enumerate
    have q1 : ∀ {A' : Around} {E : Value → Shared → Prop} {Q : Value → Shared → Prop}, Q (.ref hp.objs.size) ⟨hp.push o, g, d, tk, os⟩ → wpAny (model prog w) A' (pyIter v) Q E ⟨hp, g, d, tk, os⟩ :=
      fun q => B.iter prog w _ _ ⟨hp, g, d, tk, os⟩ _ h1 q
    wp_walk using q1
    refine wpAny_stack_any fun st => wpAny_pure ?_
    split
    · rename_i c _ _ _ _ _
      cases (c == Value.type "enumerate")
      · wp_walk using q1
        exact ⟨_, rfl, h⟩
      · wp_walk using q1
        exact ⟨_, rfl, h⟩
    · wp_walk using q1
      exact ⟨_, rfl, h⟩
theorem enum_begins1 {prog : Program} {w : World} {A : Around} {E : Value → Shared → Prop} {s : Shared} {v : Value} {o : Obj} {H : Heap → Prop} {Q : Value → Shared → Prop} (B : Begins v o H) (h1 : H s.heap)
    (h : ∀ h', IsEnum h' (s.heap.objs.size + 1) s.heap.objs.size 0 .none → h'.get? s.heap.objs.size = some o → h'.objs.size = s.heap.objs.size + 2 →
      (∀ b o, s.heap.get? b = some o → h'.get? b = some o) → Q (.ref (s.heap.objs.size + 1)) { s with heap := h' }) :
    wpAny (model prog w) A (call (.type "enumerate") [v]) Q E s := by
  refine callType_new F.called_enumerate (by decide) (F.typeCall_enumerate_1 _) (F.newCall_enumerate_1 _) (fun obj => F.args_object_init_2 obj _) F.entry_enumerate_new
    (meets_enum1 B) ⟨h1, ?_⟩
  have hz : (s.heap.push o).objs.size = s.heap.objs.size + 1 := Heap.size_push ..
  show _ ∧ _
  rw [hz]
  have he : IsEnum ((s.heap.push o).push { cls := .type "enumerate", data := .fields #[.none, .bool false, .ref s.heap.objs.size, rawInt 0, .none, .none] }) (s.heap.objs.size + 1) s.heap.objs.size 0 .none := by
    have := Heap.get?_push_size (s.heap.push o) (o := { cls := .type "enumerate", data := .fields #[.none, .bool false, .ref s.heap.objs.size, rawInt 0, .none, .none] }) rfl
    rw [hz] at this; exact this
  refine ⟨⟨_, he, rfl⟩, h _ he (Heap.get?_push_of_some _ (Heap.get?_push_size _ B.free)) (by rw [Heap.size_push, hz]) fun b o x => Heap.get?_push_of_some _ (Heap.get?_push_of_some _ x)⟩
/-- at each turn an item of k with its number, in a new pair -/
def ItE (K : PySem.W.Frag) (k : Sk) : It :=
  ⟨fun i H => ∃ (xs : List V) (x : V), k.has K H xs ∧ xs[i]? = some x, fun i H v H' => ∃ T x, v = .ref T ∧ H T = none ∧ H' = upd H T (.tup [.int (i : Nat), x]) ∧ ∀ xs, k.has K H xs → xs[i]? = some x, fun i H => ∃ xs : List V, k.has K H xs ∧ xs.length = i⟩
theorem turn_E {P : Program} {w : World} {K : PySem.W.Frag} {elts : List Expr} {kk : Nat} {tpos : Pos} (k : Sk) (e it : Addr) (hne : e ≠ it) (hek : e ∉ k.cells) (hik : it ∉ k.cells) :
    Turn P w K (.Tuple elts kk tpos) (ItE K k) [e, it] e (fun i h => (∃ old, IsEnum h e it ((i : Nat) : Int) old) ∧ k.st it i h) where
  mem := by simp
  obj := fun i h st b hb => by
    obtain ⟨⟨old, he⟩, ho⟩ := st
    have e' : b = e ∨ b = it := by simpa using hb
    rcases e' with z | z
    · rw [z]; exact ⟨_, he, fun v q => nomatch q⟩
    · rw [z]; exact Sk.obj ho
  keep := fun i h h' st k' => let ⟨⟨old, he⟩, hi⟩ := st; ⟨⟨old, k' e (by simp) _ he⟩, Sk.at hi fun o q => k' it (by simp) o q⟩
  item := by
    intro X hP hw hK hc i pins s σ H E I hf st hg
    subst hP hw hK
    obtain ⟨⟨old, he⟩, hit⟩ := st
    obtain ⟨xs, x, hq, hx⟩ := hg
    obtain ⟨Pd, S, D, hS, hv, hback⟩ := Sk.draws (A := X.A.in1) (I.ok.hd hc) I hq hik hit
    have hel : e < s.heap.objs.size := Heap.lt_size he
    have hil : it < s.heap.objs.size := by obtain ⟨_, q, _⟩ := Sk.obj hit; exact Heap.lt_size q
    have hlt : i < xs.length := (List.getElem?_eq_some_iff.mp hx).1
    refine wpAny_pyNext_enum_itemD D he hS hlt hne (by simp [hne, hek]) fun u h' tk hP ho hit' hT hsz hk => ?_
    obtain ⟨x2, hx2, ru⟩ := hv i u hP
    rw [hx] at hx2; cases hx2
    refine ⟨_, rfl, wpAny_letOwnedTupleGo_enum (s := { s with heap := h', toks := tk + 1 }) ho fun h'' he' sb => ?_⟩
    have hT2 : h''.get? s.heap.objs.size = some { cls := .type "tuple", data := .seq #[.int i tk, u] } := (sb.2 _ (Nat.ne_of_gt hel)).trans hT
    have new : ObjOk X.prog X.w (upd H s.heap.objs.size (.tup [.int (i : Nat), x])) h'' s.heap.objs.size (.tup [.int (i : Nat), x]) :=
      ⟨by show 2 ≤ sizeLine; decide, [.int i tk, u], .cons ⟨_, rfl⟩ (.cons ru .nil), ⟨_, hT2, rfl, _, rfl⟩⟩
    have I1 : Inv X pins σ (upd H s.heap.objs.size (.tup [.int (i : Nat), x])) { s with heap := h'', toks := tk + 1 } :=
      I.turnedNew (ch := [e, it]) (fun b ob hb q => (sb.2 b (fun z => hb (by simp [z]))).trans (hk b ob (fun z => hb (by simp [z])) (fun z => hb (by simp [z])) q)) hf (Nat.le_refl _) new
    refine ⟨.ref s.heap.objs.size, _, I1, rfl, ⟨_, x, rfl, I.hok.fresh (Nat.le_refl _), rfl, fun ys hy => by rw [Sk.inj I hy hq]; exact hx⟩, ⟨⟨u, ?_⟩, Sk.at (hback _ _ hit') fun o q => (sb.2 it (Ne.symm hne)).trans q⟩, fun b hb => ?_⟩
    · have e1 : ((i + 1 : Nat) : Int) = (i : Int) + 1 := by omega
      rw [e1]; exact he'
    · have hb' : b < s.heap.objs.size := by
        have e' : b = e ∨ b = it := by simpa using hb
        rcases e' with z | z
        · rw [z]; exact hel
        · rw [z]; exact hil
      rw [upd_ne (Nat.ne_of_lt hb')]
      exact (hf b hb).1
  done := by
    intro X hP hw hK hc i pins s σ H E I hf st hg
    subst hP hw hK
    obtain ⟨⟨old, he⟩, hit⟩ := st
    obtain ⟨xs, hq, hx⟩ := hg
    obtain ⟨Pd, S, D, hS, hv, hback⟩ := Sk.draws (A := X.A.in1) (I.ok.hd hc) I hq hik hit
    obtain ⟨f0, f1, f2, f3, f4, f5⟩ := hf it (by simp)
    exact wpAny_pyNext_enum_endD D he (by rw [hx]; exact hS) fun h' eb => ⟨rfl, I.turned (t' := s.toks) (fun b o hb q => eb b o hb q) f0 f1 f3 f4 f5⟩
  self := fun A i s Q E st h => let ⟨⟨_, he⟩, _⟩ := st; wpAny_pyIter_enum he h
/-- enumerate(e), e such a thing -/
def iE (K : PySem.W.Frag) (ta : TA) : TI := fun σ H R => ta σ H fun vs H1 => ∃ (k : Sk) (xs : List V), vs = [k.v] ∧ k.has K H1 xs ∧ R (ItE K k) H1
theorem pi_E {X : Cx} {e : Expr} {ta : TA} {p pos tpos : Pos} {elts : List Expr} {kk : Nat} (hg : Gl X "enumerate") (hm : X.mg "enumerate" = none) (ha : PA X [e] ta) (hs : starEach [e] X.env = [(false, eval e X.env)] := by rfl) :
    PI X (.Tuple elts kk tpos) (.Call (.Name "enumerate" p) [e] [] pos) (iE X.K ta) := by
  refine ⟨fun pins s σ H R I h => ?_⟩
  refine Call_ (ld_blt I hg hm boot_enumerate (PyProof.Rows.callWith_type1 (thn (ha.run pos pins s σ H _ I h) fun us s1 ⟨vs, H1, I1, r1, q1⟩ => ?_) hs rfl))
  obtain ⟨k, xs, ex, hq, q⟩ := q1
  subst ex
  cases r1 with
  | cons r rr =>
    cases rr
    obtain ⟨o, Hh, B, hB, hst⟩ := Sk.begins I1 hq r
    have lt := Sk.lt I1 hq
    refine enum_begins1 B hB fun h' he hit hsz hk => wpAny_pyIter_enum he ?_
    have I2 : Inv X pins σ H1 { s1 with heap := h' } := I1.kept (t' := s1.toks) hk
    refine ⟨s1.heap.objs.size + 1, [s1.heap.objs.size + 1, s1.heap.objs.size], _, _, H1, rfl, I2, turn_E k (s1.heap.objs.size + 1) s1.heap.objs.size (Nat.succ_ne_self _) (fun hb => by have : s1.heap.objs.size + 1 < s1.heap.objs.size := lt _ hb; omega) (fun hb => by have : s1.heap.objs.size < s1.heap.objs.size := lt _ hb; omega), ⟨⟨.none, he⟩, hst _ _ hit⟩, fun b hb => ?_, q⟩
    have e' : b = s1.heap.objs.size + 1 ∨ b = s1.heap.objs.size := by simpa using hb
    have hle : s1.heap.objs.size ≤ b := by
      rcases e' with z | z
      · rw [z]; exact Nat.le_add_right _ _
      · rw [z]; exact Nat.le_refl _
    exact I1.fpOk hle (I1.hok.fresh hle)
/-! ### zip -/
def ItZ (K : PySem.W.Frag) (k1 k2 : Sk) : It :=
  ⟨fun i H => ∃ (xs ys : List V) (x y : V), k1.has K H xs ∧ k2.has K H ys ∧ xs[i]? = some x ∧ ys[i]? = some y,
    fun i H v H' => ∃ T x y, v = .ref T ∧ H T = none ∧ H' = upd H T (.tup [x, y]) ∧ (∀ xs, k1.has K H xs → xs[i]? = some x) ∧ ∀ ys, k2.has K H ys → ys[i]? = some y,
    fun i H => ∃ xs ys : List V, k1.has K H xs ∧ k2.has K H ys ∧ i ≤ xs.length ∧ i ≤ ys.length ∧ (i = xs.length ∨ i = ys.length)⟩
theorem turn_Z {P : Program} {w : World} {K : PySem.W.Frag} {elts : List Expr} {kk : Nat} {tpos : Pos} {k1 k2 : Sk} {z TI TO i1 i2 : Addr} (D : ZipSep2 z TI TO i1 i2 (i1 :: k1.cells) (i2 :: k2.cells)) (n1 : i1 ∉ k1.cells) (n2 : i2 ∉ k2.cells) :
    Turn P w K (.Tuple elts kk tpos) (ItZ K k1 k2) [z, TI, TO, i1, i2] z (fun i h => IsZip h z TI TO .none ∧ IsTupOf2 h TI (.ref i1) (.ref i2) ∧ (∃ x y, IsTupOf2 h TO x y) ∧ k1.st i1 i h ∧ k2.st i2 i h) where
  mem := by simp
  obj := fun i h st c hc => by
    obtain ⟨hz, hTI, ⟨x, y, hTO⟩, h1, h2⟩ := st
    have e' : c = z ∨ c = TI ∨ c = TO ∨ c = i1 ∨ c = i2 := by simpa using hc
    rcases e' with q | q | q | q | q
    · rw [q]; exact ⟨_, hz, fun v q => nomatch q⟩
    · rw [q]; exact ⟨_, hTI, fun v q => nomatch q⟩
    · rw [q]; exact ⟨_, hTO, fun v q => nomatch q⟩
    · rw [q]; exact Sk.obj h1
    · rw [q]; exact Sk.obj h2
  keep := fun i h h' st k => by
    obtain ⟨hz, hTI, ⟨x, y, hTO⟩, h1, h2⟩ := st
    exact ⟨k z (by simp) _ hz, k TI (by simp) _ hTI, ⟨x, y, k TO (by simp) _ hTO⟩, Sk.at h1 fun o q => k i1 (by simp) o q, Sk.at h2 fun o q => k i2 (by simp) o q⟩
  item := by
    intro X hP hw hK hc i pins s σ H E I hf st hg
    subst hP hw hK
    obtain ⟨hz, hTI, ⟨x0, y0, hTO⟩, h1, h2⟩ := st
    obtain ⟨xs, ys, x, y, hqx, hqy, hx, hy⟩ := hg
    obtain ⟨P1, S1, D1, hS1, hv1, hb1⟩ := Sk.draws (A := X.A.in1) (I.ok.hd hc) I hqx n1 h1
    obtain ⟨P2, S2, D2, hS2, hv2, hb2⟩ := Sk.draws (A := X.A.in1) (I.ok.hd hc) I hqy n2 h2
    have hzl : z < s.heap.objs.size := Heap.lt_size hz
    have hl1 : i1 < s.heap.objs.size := by obtain ⟨_, q, _⟩ := Sk.obj h1; exact Heap.lt_size q
    have hl2 : i2 < s.heap.objs.size := by obtain ⟨_, q, _⟩ := Sk.obj h2; exact Heap.lt_size q
    refine wpAny_pyNext_zipD2_item D D1 D2 hz hTI hTO hS1 hS2 (List.getElem?_eq_some_iff.mp hx).1 (List.getElem?_eq_some_iff.mp hy).1 fun u u2 h' tk hP1 hP2 z' TO' h1' h2' hT hsz hk => ?_
    obtain ⟨x2, hx2, ru⟩ := hv1 i u hP1
    rw [hx] at hx2; cases hx2
    obtain ⟨y2, hy2, ru2⟩ := hv2 i u2 hP2
    rw [hy] at hy2; cases hy2
    refine ⟨_, rfl, wpAny_letOwnedTupleGo_zip (s := { s with heap := h', toks := tk }) z' fun h'' z'' sb => ?_⟩
    have hT2 : h''.get? s.heap.objs.size = some { cls := .type "tuple", data := .seq #[u, u2] } := (sb.2 _ (Nat.ne_of_gt hzl)).trans hT
    have new : ObjOk X.prog X.w (upd H s.heap.objs.size (.tup [x, y])) h'' s.heap.objs.size (.tup [x, y]) :=
      ⟨by show 2 ≤ sizeLine; decide, [u, u2], .cons ru (.cons ru2 .nil), ⟨_, hT2, rfl, _, rfl⟩⟩
    have I1 : Inv X pins σ (upd H s.heap.objs.size (.tup [x, y])) { s with heap := h'', toks := tk } :=
      I.turnedNew (t' := tk) (ch := [z, TI, TO, i1, i2]) (fun c o hb q => (sb.2 c (fun q' => hb (by simp [q']))).trans (hk c o (fun q' => hb (by simp [q'])) (fun q' => hb (by simp [q'])) (fun q' => hb (by simp [q'])) (fun q' => hb (by simp [q'])) q)) hf (Nat.le_refl _) new
    refine ⟨.ref s.heap.objs.size, _, I1, rfl, ⟨_, x, y, rfl, I.hok.fresh (Nat.le_refl _), rfl, fun l hl => by rw [Sk.inj I hl hqx]; exact hx, fun l hl => by rw [Sk.inj I hl hqy]; exact hy⟩, ⟨z'', ?_, ⟨u, u2, ?_⟩, ?_, ?_⟩, fun c hcm => ?_⟩
    · exact (sb.2 _ D.TIz).trans (hk _ _ D.TIz D.TITO D.TIi1 D.TIi2 hTI)
    · exact (sb.2 _ D.TOz).trans TO'
    · exact Sk.at (hb1 _ _ h1') fun o q => (sb.2 _ (Ne.symm D.zi1)).trans q
    · exact Sk.at (hb2 _ _ h2') fun o q => (sb.2 _ (Ne.symm D.zi2)).trans q
    · have hlt : c < s.heap.objs.size := by
        have e' : c = z ∨ c = TI ∨ c = TO ∨ c = i1 ∨ c = i2 := by simpa using hcm
        rcases e' with q | q | q | q | q
        · rw [q]; exact hzl
        · rw [q]; exact Heap.lt_size hTI
        · rw [q]; exact Heap.lt_size hTO
        · rw [q]; exact hl1
        · rw [q]; exact hl2
      rw [upd_ne (Nat.ne_of_lt hlt)]
      exact (hf c hcm).1
  done := by
    intro X hP hw hK hc i pins s σ H E I hf st hg
    subst hP hw hK
    obtain ⟨hz, hTI, ⟨x0, y0, hTO⟩, h1, h2⟩ := st
    obtain ⟨xs, ys, hqx, hqy, e1, e2, e3⟩ := hg
    obtain ⟨P1, S1, D1, hS1, hv1, hb1⟩ := Sk.draws (A := X.A.in1) (I.ok.hd hc) I hqx n1 h1
    obtain ⟨P2, S2, D2, hS2, hv2, hb2⟩ := Sk.draws (A := X.A.in1) (I.ok.hd hc) I hqy n2 h2
    exact wpAny_pyNext_zipD2_end D D1 D2 hz hTI hTO hS1 hS2 e1 e2 e3 fun h' tk hk => ⟨rfl, I.turnedL (t' := tk) (ch := [z, TI, TO, i1, i2]) (fun c o hb q =>
      hk c o (fun q' => hb (by simp [q'])) (fun q' => hb (by simp [q'])) (fun q' => hb (by simp [q'])) (fun q' => hb (by simp [q'])) q) hf⟩
  self := fun A i s Q E st h => wpAny_pyIter_zip st.1 h
def iZ (K : PySem.W.Frag) (ta : TA) : TI := fun σ H R => ta σ H fun vs H1 => ∃ (k1 k2 : Sk) (xs ys : List V), vs = [k1.v, k2.v] ∧ k1.has K H1 xs ∧ k2.has K H1 ys ∧ R (ItZ K k1 k2) H1
theorem pi_Z {X : Cx} {e e2 : Expr} {ta : TA} {p pos tpos : Pos} {elts : List Expr} {kk : Nat} (hg : Gl X "zip") (hm : X.mg "zip" = none) (ha : PA X [e, e2] ta)
    (hs : starEach [e, e2] X.env = (false, eval e X.env) :: starEach [e2] X.env := by rfl) (hpl : (backTo pos (starEach [e2] X.env)).any (·.1) = false := by rfl) :
    PI X (.Tuple elts kk tpos) (.Call (.Name "zip" p) [e, e2] [] pos) (iZ X.K ta) := by
  refine ⟨fun pins s σ H R I h => ?_⟩
  refine Call_ (ld_blt I hg hm PyProof.Rows.boot_zip (PyProof.Rows.callWith_type1 (thn (ha.run pos pins s σ H _ I h) fun us s1 ⟨vs, H1, I1, r1, q1⟩ => ?_) hs hpl))
  obtain ⟨k1, k2, xs, ys, ex, hqx, hqy, q⟩ := q1
  subst ex
  cases r1 with
  | cons r rr =>
    cases rr with
    | cons r' rr =>
      cases rr
      obtain ⟨o1, H1', B1, hB1, hst1⟩ := Sk.begins I1 hqx r
      obtain ⟨o2, H2', B2, hB2, hst2⟩ := Sk.begins I1 hqy r'
      have lt1 := Sk.lt I1 hqx
      have lt2 := Sk.lt I1 hqy
      refine zip_begins2 B1 B2 hB1 hB2 fun h' hz hTI hTO h1 h2 hsz hk => wpAny_pyIter_zip hz ?_
      have I2 : Inv X pins σ H1 { s1 with heap := h' } := I1.kept (t' := s1.toks) hk
      refine ⟨s1.heap.objs.size + 4, [s1.heap.objs.size + 4, s1.heap.objs.size + 2, s1.heap.objs.size + 3, s1.heap.objs.size, s1.heap.objs.size + 1], _, _, H1, rfl, I2, turn_Z (zip_sep2 lt1 lt2) (fun hb => absurd (lt1 _ hb) (Nat.lt_irrefl _)) (fun hb => by have : s1.heap.objs.size + 1 < s1.heap.objs.size := lt2 _ hb; omega), ⟨hz, hTI, ⟨_, _, hTO⟩, hst1 _ _ h1, hst2 _ _ h2⟩, fun c hcm => ?_, q⟩
      have e' : c = s1.heap.objs.size + 4 ∨ c = s1.heap.objs.size + 2 ∨ c = s1.heap.objs.size + 3 ∨ c = s1.heap.objs.size ∨ c = s1.heap.objs.size + 1 := by simpa using hcm
      have hle : s1.heap.objs.size ≤ c := by
        rcases e' with z | z | z | z | z
        · rw [z]; exact Nat.le_add_right _ _
        · rw [z]; exact Nat.le_add_right _ _
        · rw [z]; exact Nat.le_add_right _ _
        · rw [z]; exact Nat.le_refl _
        · rw [z]; exact Nat.le_add_right _ _
      exact I1.fpOk hle (I1.hok.fresh hle)
/-! ### in judgements -/
/-- a value that is gone over, told by its items -/
structure SkOf {β : Type} (T : Rp β) (y : β) {α : Type} (R : Rp α) (xs : List α) : Prop where
  get : ∀ G v, T.rel G v y → ∃ (k : Sk) (vs : List V), v = k.v ∧ (∀ (K : PySem.W.Frag) (H : Hp), Same G H → k.has K H vs) ∧ Paired (R.rel G) vs xs
theorem sk_lst {α : Type} {R : Rp α} {xs : List α} : SkOf (rLst R) xs R xs := ⟨fun G v ⟨a, vs, e, h, p⟩ => ⟨.lst a, vs, e, fun K H s => .inl (rd_up s h), p⟩⟩
theorem sk_tup {α : Type} {R : Rp α} {xs : List α} : SkOf (rTup R) xs R xs := ⟨fun G v ⟨a, vs, e, h, p⟩ => ⟨.tup a, vs, e, fun K H s => .inl (rd_up s h), p⟩⟩
theorem sk_str {z : Str} : SkOf rStr z rStr (signs z) := ⟨fun G v e => ⟨.txt z, (signs z).map V.str, e, fun K H s => rfl, strs_paired _⟩⟩
section
variable {X : Cx} {M : Md} {Γ : List Ent} {e e2 : Expr} {α β γ δ : Type} {R : Rp α} {S : Rp β} {T : Rp γ} {U : Rp δ} {x : γ} {y : δ} {xs : List α} {ys : List β} {pos p tpos : Pos} {elts : List Expr} {kk : Nat}
theorem it_enum (hm : X.mg "enumerate" = none) (ha : EV X M e Γ T x) (sk : SkOf T x R xs) (hz : xs.length ≤ 16777216) (hg : Gl X "enumerate" := by rfl) (hs : starEach [e] X.env = (false, eval e X.env) :: starEach [] X.env := by rfl) (hs2 : starEach [e] X.env = [(false, eval e X.env)] := by rfl) :
    ITv X M (.Tuple elts kk tpos) (.Call (.Name "enumerate" p) [e] [] pos) Γ (rPair rInt R) ((upto 0 xs.length).zip xs) := ⟨_, pi_E hg hm pa_of hs2, fun H0 G H σ t K k =>
  ea_cons ha ea_nil hs H0 G H σ t _ fun vs as G' H' h s ar => by
    subst h
    obtain ⟨v, rfl, h2⟩ := args1 ar
    obtain ⟨sk', vs, rfl, hh, pr⟩ := sk.get G' v h2
    have hl : vs.length = xs.length := paired_len pr
    have hl2 : ((upto 0 xs.length).zip xs).length = xs.length := by simp [upto_len]
    refine ⟨sk', vs, rfl, hh X.K H' s.gh, k _ _ G' H' rfl (by rw [hl2, sizeLine_eq]; exact hz) s fun _ => ⟨fun H => sk'.has X.K H vs, fun i H v H' => ∃ T x, v = .ref T ∧ H T = none ∧ H' = upd H T (.tup [.int (i : Nat), x]) ∧ vs[i]? = some x, fun G1 H1 g1 g2 => hh X.K H1 (g1.trans g2), ?_, fun i H1 v H2 G1 g1 o y => ?_⟩⟩
    · rw [hl2, ← hl]
      exact ⟨fun i H hi g => ⟨vs, vs[i], g, List.getElem?_eq_getElem hi⟩, fun H g => ⟨vs, g, rfl⟩, fun i H v H' _ g ⟨T, x, a, b, c, d⟩ => ⟨T, x, a, b, c, d vs g⟩⟩
    · obtain ⟨T, x, rfl, hT, rfl, hx⟩ := y
      obtain ⟨x', h4, h5⟩ := paired_at' pr hx
      have hi : i < xs.length := (List.getElem?_eq_some_iff.mp h4).1
      refine ⟨upd G1 T (.tup [.int (i : Nat), x]), ((i : Int), x'), ?_, Step.new o hT (by show 2 ≤ sizeLine; decide), T, .int (i : Nat), x, rfl, .inl upd_same, rfl, R.mono (g1.trans (same_upd (o.gnone hT))) h5⟩
      rw [List.getElem?_zip_eq_some]
      exact ⟨by rw [upto_at hi]; simp, h4⟩⟩
theorem it_zip (hm : X.mg "zip" = none) (ha : EV X M e Γ T x) (hb : EV X M e2 Γ U y) (sk : SkOf T x R xs) (sk2 : SkOf U y S ys) (hz : xs.length ≤ 16777216) (hg : Gl X "zip" := by rfl) (hs : starEach [e, e2] X.env = (false, eval e X.env) :: starEach [e2] X.env := by rfl) (hs2 : starEach [e2] X.env = (false, eval e2 X.env) :: starEach [] X.env := by rfl) (hpl : (backTo pos (starEach [e2] X.env)).any (·.1) = false := by rfl) :
    ITv X M (.Tuple elts kk tpos) (.Call (.Name "zip" p) [e, e2] [] pos) Γ (rPair R S) (xs.zip ys) := ⟨_, pi_Z hg hm pa_of hs hpl, fun H0 G H σ t K k =>
  ea_cons ha (ea_cons hb ea_nil hs2) hs H0 G H σ t _ fun vs as G' H' h s ar => by
    subst h
    obtain ⟨v, w, rfl, h2, h3⟩ := args2 ar
    obtain ⟨k1, vs, rfl, hh, pr⟩ := sk.get G' v h2
    obtain ⟨k2, ws, rfl, hh2, pr2⟩ := sk2.get G' w h3
    have hl : vs.length = xs.length := paired_len pr
    have hl2 : ws.length = ys.length := paired_len pr2
    have hlz : (xs.zip ys).length = min vs.length ws.length := by simp [hl, hl2]
    refine ⟨k1, k2, vs, ws, rfl, hh X.K H' s.gh, hh2 X.K H' s.gh, k _ _ G' H' rfl (by rw [hlz, sizeLine_eq]; omega) s fun _ => ⟨fun H => k1.has X.K H vs ∧ k2.has X.K H ws, fun i H v H' => ∃ T x y, v = .ref T ∧ H T = none ∧ H' = upd H T (.tup [x, y]) ∧ vs[i]? = some x ∧ ws[i]? = some y, fun G1 H1 g1 g2 => ⟨hh X.K H1 (g1.trans g2), hh2 X.K H1 (g1.trans g2)⟩, ?_, fun i H1 v H2 G1 g1 o y => ?_⟩⟩
    · rw [hlz]
      exact ⟨fun i H hi g => ⟨vs, ws, vs[i], ws[i], g.1, g.2, List.getElem?_eq_getElem (by omega), List.getElem?_eq_getElem (by omega)⟩, fun H g => ⟨vs, ws, g.1, g.2, by omega, by omega, by omega⟩, fun i H v H' _ g ⟨T, x, y, a, b, c, d, e⟩ => ⟨T, x, y, a, b, c, d vs g.1, e ws g.2⟩⟩
    · obtain ⟨T, x, y, rfl, hT, rfl, hx, hy⟩ := y
      obtain ⟨x', h4, h5⟩ := paired_at' pr hx
      obtain ⟨y', h6, h7⟩ := paired_at' pr2 hy
      refine ⟨upd G1 T (.tup [x, y]), (x', y'), ?_, Step.new o hT (by show 2 ≤ sizeLine; decide), T, x, y, rfl, .inl upd_same, R.mono (g1.trans (same_upd (o.gnone hT))) h5, S.mono (g1.trans (same_upd (o.gnone hT))) h7⟩
      rw [List.getElem?_zip_eq_some]
      exact ⟨h4, h6⟩⟩
end
end RT

/-! RT12: tuple assignment, slices, sorted, own lists read and popped, isinstance, join over a dict. -/
namespace RT
open PySem L2
open Sem (wp)
theorem nolen_dk : typeLookup (.type "dict_keyiterator") "__len__" = pure none := by rw [typeLookup_type, builtinLookup_eq_fast]; kernel_rfl
theorem hint_dk : typeLookup (.type "dict_keyiterator") "__length_hint__" = pure (some (.builtin "dict_keyiterator.__length_hint__")) := by rw [typeLookup_type, builtinLookup_eq_fast]; kernel_rfl
section
variable {prog : Program} {w : World} {A : Around} {E : Value → Shared → Prop} {s : Shared} {I : Addr} {fp wr : List Addr} {G : Array GenState → Array GenState → Prop} {n : Nat} {P : Nat → Value → Prop} {St : Nat → Shared → Prop}
theorem collect_dk {Q : List Value → Shared → Prop} (W : WalksS prog w A.in1 I fp wr G n P St) (hT : ∀ i s, St i s → s.TypeIs (.ref I) "dict_keyiterator") (hst : St 0 s) (hfp : ∀ b ∈ fp, b < s.heap.objs.size) (hI : I ∈ fp)
    (hQ : ∀ s' acc, Moved wr G s s' → ItemsOf P acc n → Q acc.toList s') (hn : n ≤ sizeLine) : wpAny (model prog w) A (collect (.ref I)) Q E s := by
  have hSf : s.heap.objs.size ∉ fp := fun hm => Nat.lt_irrefl _ (hfp _ hm)
  have hSI : s.heap.objs.size ≠ I := fun e => hSf (e ▸ hI)
  unfold collect
  refine wpAny_bind (wpAny_runValue (codeAny_builtin F.entry_proto_collect ?_))
  rw [Around.under_plainId F.plain_proto_collect _]
  show wpAny _ A.in1 (newList [] >>= fun l => again (.builtin "list.__iadd__" ⟨[l, .ref I], []⟩)) _ _ s
  refine wpAny_bind (wpAny_newObj_type ?_)
  refine wpAny_pure ⟨plainId_quiet F.plain_list_iadd _, codeAny_builtin F.entry_list_iadd ?_⟩
  rw [Around.under_plainId F.plain_list_iadd _]
  have hst₁ := W.frame 0 s (s.heap.push { cls := .type "list", data := .seq ([] : List Value).toArray }) s.toks hst (Nat.le_refl _) fun b _ o e => Heap.get?_push_of_some _ e
  have hS₁ : (s.heap.push { cls := .type "list", data := .seq ([] : List Value).toArray }).get? s.heap.objs.size = some { cls := .type "list", data := .seq ([] : List Value).toArray } := Heap.get?_push_size _ rfl
  have h1 : Builtin.List.listSameRef (.ref s.heap.objs.size) (.ref I) = false := by simp [Builtin.List.listSameRef, hSI]
  show wpAny _ A.in1 (Builtin.List.listExtendWith (.ref s.heap.objs.size) (.ref I) (.ref s.heap.objs.size)) _ _ _
  unfold Builtin.List.listExtendWith
  refine wpAny_bind (wpAny_typeOf (hT 0 _ hst₁) ?_)
  rw [if_neg (by rw [h1]; decide)]
  refine wpAny_bind (W.self 0 _ _ _ hst₁ ?_)
  refine wpAny_bind (wpAny_holding ?_)
  unfold Builtin.List.listLengthHint
  refine wpAny_bind (wpAny_specialOf (hT 0 _ hst₁) nolen_dk ?_)
  show wpAny _ A.in1 (specialOf (Value.ref I) (Str.ofString "__length_hint__") >>= _) _ _ _
  refine wpAny_bind (wpAny_specialOf (hT 0 _ hst₁) hint_dk ?_)
  (generalize hid : ("dict_keyiterator.__length_hint__" : String) = id0; (fail_if_success (clear hid id0)); wp_delta; rw [show splitId id0 = some ("dict_keyiterator", "__length_hint__") from by subst hid; decide +kernel]; subst hid)
  refine wpAny_bind (wpAny_isInstance (b := true) (hT 0 _ hst₁) (by rw [isSubtype_type]; kernel_rfl) ?_)
  refine wpAny_pure ?_
  rw [if_neg (by decide)]
  refine wpAny_pure ⟨plainId_quiet F.plain_extend_loop _, codeAny_extend_loopS W hn _ hSf _ n 0 _ _ _ rfl (Nat.zero_le _) hst₁ hS₁ (ItemsOf.nil P) fun s' acc' c' hm hS' hacc => ?_⟩
  show wpAny _ A (load s.heap.objs.size >>= _) _ _ s'
  refine wpAny_bind (wpAny_load hS' ?_)
  exact wpAny_pure (hQ s' acc' (Moved.drop_new (o := { cls := .type "list", data := .seq ([] : List Value).toArray }) (tk := s.toks) hm (Nat.le_refl _)) hacc)
end
theorem mt_joinD {X : Cx} (hcalm : X.calm = true) : MtR X "str.join" (fun x xs H Q => ∃ a p, ∃ (kvs : List (Key × V)) (ys : List Str), x = .str a ∧ xs = [.ref p] ∧ Rd H p (.dK kvs) ∧ kvs.map (·.1) = ys.map Sum.inr ∧
    (ys.map (·.length)).sum + ys.length * a.length ≤ 16777216 ∧ Q (.str (Txt.join a ys)) H) := by
  intro pins s σ H x xs v us Q I rx rs h
  obtain ⟨a, p, kvs, ys, rfl, rfl, hd, hks, hz, h⟩ := h
  obtain ⟨t, rfl⟩ := rx
  obtain ⟨u, eu, r⟩ := vals1 rs
  subst eu
  cases r
  obtain ⟨z, lo, vs, rel, dd⟩ := dk_rd I.hok hd
  obtain ⟨ep, hat⟩ := dd.dictAt
  have hkeys : vs.map (·.1) = ys.map Sum.inr := rel.keys.symm.trans hks
  have hl : vs.length = ys.length := by
    have e := congrArg List.length hkeys
    rw [List.length_map, List.length_map] at e
    exact e
  have h16 : vs.length ≤ sizeLine := by rw [← rel.length]; exact z
  have hh : X.A.handled = none := I.ok.hd hcalm
  have hh2 : X.A.in1.in1.handled = none := hh
  have W := (Walks.dictKeys (prog := X.prog) (w := X.w) (A := X.A.in1.in1) (knd := mixKind X.prog X.w) hh2 s.heap.objs.size p (Nat.ne_of_lt hat.lt_size) vs ep).toS
  refine wpAny_call (codeAny_call_builtin F.slot_str_join.plain F.entry_str_join (F.slot_str_join.check _ _ _ _ _ _ _ _ (typeIs_str _ _ _) (F.args_str_join_2 _ _) ?_))
  rw [join_tree_other]
  refine wpAny_bind (wpAny_typeOf dd.typeIs ?_)
  show wpAny _ X.A.in1 ((pyIter (.ref p)).tryCatch _ >>= fun it => collect it >>= fun items => joinTail a items) _ _ s
  refine wpAny_bind (wpAny_tryCatch (wpAny_pyIter_dict lo hat ?_))
  have hz1 : (s.heap.push { cls := .type "dict_keyiterator", data := .fields #[.ref p, .int 0 0, .int vs.length 0, .int ep 0] }).objs.size = s.heap.objs.size + 1 := Heap.size_push ..
  refine wpAny_bind (collect_dk (s := { s with heap := s.heap.push { cls := .type "dict_keyiterator", data := .fields #[.ref p, .int 0 0, .int vs.length 0, .int ep 0] } }) W (fun i s' st => by obtain ⟨⟨o, ho, hc, _⟩, _⟩ := st; exact ⟨o, ho, hc⟩) ⟨⟨_, Heap.get?_push_size _ rfl, rfl, rfl⟩, hat.push _⟩ (fun b hb => ?_) (by simp) (fun s' acc hm hacc => ?_) h16)
  · show b < (s.heap.push _).objs.size
    rw [hz1]
    have e' : b = s.heap.objs.size ∨ b = p := by simpa using hb
    rcases e' with q | q
    · rw [q]; exact Nat.lt_succ_self _
    · rw [q]; exact Nat.lt_succ_of_lt hat.lt_size
  have hal : acc.toList.length = ys.length := by rw [Array.length_toList, hacc.1, hl]
  have hS : PyProof.Rows.StrsAre acc.toList ys := strs_at hal fun j v e => by
    obtain ⟨k, x, e1, e2⟩ := hacc.2 j v (by rw [← Array.getElem?_toList]; exact e)
    have e3 : (vs.map (·.1))[j]? = some k := by rw [List.getElem?_map, e1]; all_goals rfl
    rw [hkeys, List.getElem?_map] at e3
    cases e4 : ys[j]? with
    | none => rw [e4] at e3; cases e3
    | some y =>
      rw [e4] at e3
      have e5 : Sum.inr y = k := Option.some.inj e3
      subst e5
      obtain ⟨t, ev⟩ := Value.isStrOf_shape (x := y) (v := v) e2
      exact ⟨y, t, rfl, ev⟩
  obtain ⟨l, hl', ht⟩ := PyProof.Rows.strsAre_values hS
  subst ht
  rw [hl']
  have hok' := PyProof.Rows.joinOk_of hz
  unfold JoinOk at hok'
  rw [Bool.not_eq_true'] at hok'
  have g : Gives (joinTail a (strValues l)) (joinMade a l) := by
    have g0 := gives_joinTail a l hok'
    cases l with
    | nil => exact g0
    | cons p r => cases r with
      | nil => exact g0
      | cons q r' => exact g0
  refine g X.prog X.w X.A (wants (EP X pins σ Q) X.xe) s' (post_join l ⟨joinFit_length hok', fun t' k => ?_⟩)
  have I1 : Inv X pins σ H { s with heap := s'.heap, toks := k } := I.kept fun b o e => hm.heap b o (fun hmem => absurd (Heap.lt_size e) (by rw [List.mem_singleton.mp hmem]; exact Nat.lt_irrefl _)) (Heap.get?_push_of_some _ e)
  rw [Moved.eq_with hm]
  exact ⟨.str _, H, I1, ⟨t', rfl⟩, h⟩
end RT

/-! RT13: tuple assignment, slices, sorted, own lists read and popped, isinstance, join over a dict. -/
namespace RT
open PySem L2
section
variable {X : Cx} {M M1 M2 N T' : Md} {Γ : List Ent} {e a b c : Expr} {α β γ : Type} {R : Rp α} {S : Rp β} {x : α} {y : β} {xs : List α} {ys : List β} {P : α → Prop} {P2 : β → Prop} {pos p apos cpos : Pos} {s z : Str} {es : List Expr}
/-! ### texts of dicts -/
variable {kvs : List (Str × α)}
theorem keys_of {G : Hp} : ∀ {l : List (Key × V)} {kvs : List (Str × α)}, Paired (fun (kv : Key × V) (p : Str × α) => kv.1 = .inr p.1 ∧ R.rel G kv.2 p.2) l kvs → l.map (·.1) = (kvs.map (·.1)).map Sum.inr
  | _, _, .nil => rfl
  | _, _, .cons h t => by rw [List.map_cons, List.map_cons, List.map_cons, h.1, keys_of t]
theorem ev_joinD (hcalm : X.calm = true) (ha : EV X M a Γ rStr s) (hb : EV X M b Γ (rDic R) kvs) (hz : (kvs.map (·.1.length)).sum + kvs.length * s.length ≤ 16777216) (hs : starEach [b] X.env = [(false, eval b X.env)] := by rfl) (hbase : attributeBase a "join" X.env (eval a X.env) = eval a X.env := by rfl) (hline : (apos.endLine == pos.line) = true := by rfl) :
    EV X M (.Call (.Attribute a "join" apos) [b] [] pos) Γ rStr (Txt.join s (kvs.map (·.1))) := fun H0 G H σ t Q k =>
  of_pe (pe_m1 F.slot_str_join F.type_str_join (mt_joinD hcalm) pe_of pe_of hs hbase hline) (ha H0 G H σ t _ fun v x G1 H1 e1 s1 r1 => by
    subst e1
    refine ⟨⟨x, r1⟩, hb H0 G1 H1 σ (t.step s1) _ fun w u G2 H2 e2 s2 r2 => ?_⟩
    subst e2
    obtain ⟨q, l, rfl, h2, h3⟩ := rDic_rd r2
    exact ⟨x, q, l, List.map (fun (q : Str × α) => q.1) u, r1, rfl, rd_up s2.gh h2, keys_of h3, by rw [List.map_map, List.length_map]; exact hz, k _ _ G2 H2 rfl (s1.trans s2) rfl⟩)
/-- sorted(d) -/
theorem ef_sortedD (hm : X.mg "sorted" = none) (hcalm : X.calm = true) (hb : EV X M b Γ (rDic R) kvs) (hz : kvs.length < 64) (hg : Gl X "sorted" := by rfl) (hs : starEach [b] X.env = (false, eval b X.env) :: starEach [] X.env := by rfl) (hpl : (backTo pos (starEach [] X.env)).any (·.1) = false := by rfl) :
    EFp X M (.Call (.Name "sorted" p) [b] [] pos) Γ rStr (fun ys => ys.Perm (kvs.map (·.1))) :=
  ef_B (call_sortedD hcalm) hm (by decide +kernel) (ea_cons hb ea_nil hs) (fun _ h => by
    subst h
    intro G H vs o ar Q k
    obtain ⟨v, rfl, h2⟩ := args1 ar
    obtain ⟨q, l, rfl, h3, h4⟩ := rDic_rd h2
    refine ⟨q, l, kvs.map (·.1), rfl, rd_up o.gh h3, keys_of h4, by simpa using hz, fun ys p hp hs hn => ?_⟩
    have hl : ys.length < 64 := by rw [hp.length_eq]; simpa using hz
    exact k p _ ys G _ hp (Step.own o hn (by show (ys.map V.str).length ≤ sizeLine; rw [sizeLine_eq]; simp; omega)) hn (o.gnone hn) upd_same (strs_paired ys)) hg (by decide) (by decide) hs hpl
/-- sorted(texts) -/
theorem ef_sortedS {Pl : List Str → Prop} (hm : X.mg "sorted" = none) (hb : EVt X M N b Γ (rLst rStr) Pl) (hz : ∀ l, Pl l → l.length < 64) (hg : Gl X "sorted" := by rfl) (hs : starEach [b] X.env = (false, eval b X.env) :: starEach [] X.env := by rfl) (hpl : (backTo pos (starEach [] X.env)).any (·.1) = false := by rfl) (hF : M.F = N.F := by first | rfl | assumption) :
    EFt X M N (.Call (.Name "sorted" p) [b] [] pos) Γ rStr (fun ys => ∃ l, Pl l ∧ ys.Perm l) :=
  ef_B cr_sortedS hm (by decide +kernel) (ea_consP hb ea_nil hs hF rfl) (fun _ h => by
    obtain ⟨l, r, pl, rfl, rfl⟩ := h
    intro G H vs o ar Q k
    obtain ⟨v, rfl, h2⟩ := args1 ar
    obtain ⟨q, us, rfl, h3, h4⟩ := h2
    have hz' := hz l pl
    refine ⟨q, l, rfl, by rw [← paired_strs h4]; exact .inl (rd_up o.gh h3), hz', fun ys p hp hs hn => ?_⟩
    have hl : ys.length < 64 := by rw [hp.length_eq]; exact hz'
    exact k p _ ys G _ ⟨l, pl, hp⟩ (Step.own o hn (by show (ys.map V.str).length ≤ sizeLine; rw [sizeLine_eq]; simp; omega)) hn (o.gnone hn) upd_same (strs_paired ys)) hg (by decide) (by decide) hs hpl
/-! ### slices -/
theorem paired_take {F : V → α → Prop} : ∀ {l : List V} {m : List α} (n : Nat), Paired F l m → Paired F (l.take n) (m.take n)
  | _, _, 0, _ => by simpa using Paired.nil
  | _, _, n + 1, .nil => by simpa using Paired.nil
  | _, _, n + 1, .cons h t => by simpa using Paired.cons h (paired_take n t)
theorem ef_to {Pl : List α → Prop} {Pi : Int → Prop} {p2 : Pos} (ha : EVt X M M1 a Γ (rLst R) Pl) (hb : EVt X M1 N b Γ rInt Pi) (h0 : ∀ i, Pi i → 0 ≤ i) (hF : M.F = M1.F := by first | rfl | assumption) (hF2 : M1.F = N.F := by first | rfl | assumption) : EFt X M N (.Subscript a (.Slice none (some b) none p2) pos) Γ R (fun ys => ∃ xs i, Pl xs ∧ Pi i ∧ ys = xs.take i.toNat) := fun H0 G H σ t Q k =>
  of_pe (pe_slice sl_list pe_of po_none (po_some pe_of)) (ha H0 G H σ t _ fun v xs G1 H1 px s1 r1 => hb H0 G1 H1 σ (t.step2 hF s1) _ fun w i G2 H2 pi s2 r2 => by
    obtain ⟨q, vs, rfl, h2, h3⟩ := r1
    refine ⟨i, r2, q, vs, rfl, .inl (rd_up s2.gh (same_rd s2.g h2)), fun p hp => ?_⟩
    have hcut : cutV vs none (some i) = vs.take i.toNat := by
      obtain ⟨n, rfl⟩ := Int.eq_ofNat_of_zero_le (h0 i pi)
      unfold cutV
      rw [HT.sIx_none, show ((n : Nat) : Int) = (n : Int) from rfl, HT.sIx_nat, List.drop_zero, Nat.sub_zero, List.take_eq_take_iff]
      simp
    have o2 := s2.okk2 hF2 (s1.okk2 hF t.ok)
    have hz : vs.length ≤ sizeLine := o2.sz q vs (.inl (rd_up s2.gh (same_rd s2.g h2)))
    have hz' : (vs.take i.toNat).length ≤ sizeLine := by rw [List.length_take]; omega
    rw [hcut]
    have S := s1.trans2 hF2 s2
    exact k p _ (xs.take i.toNat) G2 _ ⟨xs, i, px, pi, rfl⟩ (S.trans (Step.own o2 hp hz')) (S.fresh hp) (o2.gnone hp) upd_same (paired_take _ (R.pmono s2.g h3)))
theorem EFt.imp {P P' : List α → Prop} (h : EFt X M N e Γ R P) (hp : ∀ x, P x → P' x) : EFt X M N e Γ R P' := fun H0 G H σ t Q k => h H0 G H σ t Q fun p vs xs G' H' px => k p vs xs G' H' (hp xs px)
/-! ### assignments to two names -/
variable {rest : List Stmt} {Po : Post} {N : List Ent → Prop} {tg : Expr} {f : α → List Ent → List Ent} {sl : List Nat}
theorem ss_asgP (he : EVt X M M1 e Γ R P) (tgv : TGv X M1 tg R f sl) (hp : ∀ x, P x → SSt X M1 T' rest (f x Γ) Po) (hs : swapsWithSole [tg] e pos.line X.env = pure false := by rfl) (hw : swappedStores [tg] e X.env = pure none := by rfl)
    (h1 : (assignEach [tg] X.env).map (·.2) = [assign tg X.env] := by rfl) (hF : M.F = M1.F := by first | rfl | assumption) : SSt X M T' (.Assign [tg] e pos :: rest) Γ Po :=
  ss_consG (M1 := M1) (N := fun Γ' => ∃ x, P x ∧ Γ' = f x Γ) (fun G0 H0 G H σ D t s m => of_ps (ps_asg pe_of pg_of hs hw h1) (he H0 G H σ t _ fun v x G' H' px s' r =>
    tgv H0 G' H' σ Γ v x (t.step2 hF s') r _ fun σ' t' _ _ => m.nx _ _ G' H' ⟨x, px, rfl⟩ t' (s.trans2 hF s'))) fun Γ' ⟨x, px, q⟩ => q ▸ hp x px
variable {y1 y2 : Str} {px py pt : Pos} {kt k2 : Nat} {pt2 : Pos}
theorem ss_parVV (i j : Nat) (hc : X.calm = true) (hN : X.N.Nodup) (hij : i ≠ j) (ha : EVt X M M1 a Γ R P) (hb : EVt X M1 M2 b Γ S P2) (hp : ∀ x y, P x → P2 y → SSt X M2 T' rest ((Γ.set i (.val R x)).set j (.val S y)) Po)
    (hi : X.N[i]? = some y1 := by rfl) (hj : X.N[j]? = some y2 := by rfl) (hx : X.env.scope.names.lookup y1 = some .local := by rfl) (hy : X.env.scope.names.lookup y2 = some .local := by rfl)
    (hw : swappedStores [.Tuple [.Name y1 px, .Name y2 py] kt pt] (.Tuple [a, b] k2 pt2) X.env = pure (some [y1, y2]) := by rfl) (hs : swapsWithSole [.Tuple [.Name y1 px, .Name y2 py] kt pt] (.Tuple [a, b] k2 pt2) pos.line X.env = pure false := by rfl)
    (hs1 : starEach [a, b] X.env = (false, eval a X.env) :: starEach [b] X.env := by rfl) (hs2 : starEach [b] X.env = (false, eval b X.env) :: starEach [] X.env := by rfl) (hF : M.F = M1.F := by first | rfl | assumption) (hF2 : M1.F = M2.F := by first | rfl | assumption) :
    SSt X M T' (.Assign [.Tuple [.Name y1 px, .Name y2 py] kt pt] (.Tuple [a, b] k2 pt2) pos :: rest) Γ Po :=
  ss_consG (M1 := M2) (N := fun Γ' => ∃ x y, P x ∧ P2 y ∧ Γ' = (Γ.set i (.val R x)).set j (.val S y)) (fun G0 H0 G H σ D t s m => of_ps (ps_par hc hN hi hj hij hx hy pa_of hw hs)
    (of_pa (pa_cons pe_of (pa_cons pe_of pa_nil hs2) hs1) (ha H0 G H σ t _ fun v x G1 H1 p1 s1 r1 => hb H0 G1 H1 σ (t.step2 hF s1) _ fun w y G2 H2 p2 s2 r2 =>
      ⟨v, w, rfl, m.nx _ _ G2 H2 ⟨x, y, p1, p2, rfl⟩ ((((t.step2 hF s1).step2 hF2 s2).putV i (R.mono s2.g r1)).putV j r2) ((s.trans2 hF s1).trans2 hF2 s2)⟩))) fun Γ' ⟨x, y, p1, p2, q⟩ => q ▸ hp x y p1 p2
theorem ss_parFV (i j : Nat) (hc : X.calm = true) (hN : X.N.Nodup) (hij : i ≠ j) (ha : EF X M a Γ R xs) (hb : EVt X M M1 b Γ S P2) (hp : ∀ y, P2 y → SSt X M1 T' rest ((Γ.set i (.own R xs)).set j (.val S y)) Po)
    (hi : X.N[i]? = some y1 := by rfl) (hj : X.N[j]? = some y2 := by rfl) (hx : X.env.scope.names.lookup y1 = some .local := by rfl) (hy : X.env.scope.names.lookup y2 = some .local := by rfl)
    (hw : swappedStores [.Tuple [.Name y1 px, .Name y2 py] kt pt] (.Tuple [a, b] k2 pt2) X.env = pure (some [y1, y2]) := by rfl) (hs : swapsWithSole [.Tuple [.Name y1 px, .Name y2 py] kt pt] (.Tuple [a, b] k2 pt2) pos.line X.env = pure false := by rfl)
    (hs1 : starEach [a, b] X.env = (false, eval a X.env) :: starEach [b] X.env := by rfl) (hs2 : starEach [b] X.env = (false, eval b X.env) :: starEach [] X.env := by rfl) (hF : M.F = M1.F := by first | rfl | assumption) :
    SSt X M T' (.Assign [.Tuple [.Name y1 px, .Name y2 py] kt pt] (.Tuple [a, b] k2 pt2) pos :: rest) Γ Po :=
  ss_consG (M1 := M1) (N := fun Γ' => ∃ y, P2 y ∧ Γ' = (Γ.set i (.own R xs)).set j (.val S y)) (fun G0 H0 G H σ D t s m => of_ps (ps_par hc hN hi hj hij hx hy pa_of hw hs)
    (of_pa (pa_cons pe_of (pa_cons pe_of pa_nil hs2) hs1) (ha H0 G H σ t _ fun p vs zs G1 H1 ez s1 hp1 hg1 hh1 r1 => hb H0 G1 H1 σ (t.step s1) _ fun w y G2 H2 p2 s2 r2 => by
      subst ez
      have S := s1.trans2 hF s2
      have hh2 := s2.h p _ (by rw [← hF]; exact t.ok.nf hp1) hh1
      have hg2 := s2.nw p (by rw [hh1]; exact fun z => nomatch z) hg1
      exact ⟨_, w, rfl, m.nx _ _ G2 H2 ⟨y, p2, rfl⟩ ((t.putOwn2 hF (t.step2 hF S) i hp1 (s.fresh hp1) hg2 hh2 (R.pmono s2.g r1)).putV j r2) (s.trans2 hF S)⟩))) fun Γ' ⟨y, p2, q⟩ => q ▸ hp y p2
theorem ss_parFF (i j : Nat) (hc : X.calm = true) (hN : X.N.Nodup) (hij : i ≠ j) (ha : EF X M a Γ R xs) (hb : EF X M b Γ S ys) (hp : SSt X M T' rest ((Γ.set i (.own R xs)).set j (.own S ys)) Po)
    (hi : X.N[i]? = some y1 := by rfl) (hj : X.N[j]? = some y2 := by rfl) (hx : X.env.scope.names.lookup y1 = some .local := by rfl) (hy : X.env.scope.names.lookup y2 = some .local := by rfl)
    (hw : swappedStores [.Tuple [.Name y1 px, .Name y2 py] kt pt] (.Tuple [a, b] k2 pt2) X.env = pure (some [y1, y2]) := by rfl) (hs : swapsWithSole [.Tuple [.Name y1 px, .Name y2 py] kt pt] (.Tuple [a, b] k2 pt2) pos.line X.env = pure false := by rfl)
    (hs1 : starEach [a, b] X.env = (false, eval a X.env) :: starEach [b] X.env := by rfl) (hs2 : starEach [b] X.env = (false, eval b X.env) :: starEach [] X.env := by rfl) :
    SSt X M T' (.Assign [.Tuple [.Name y1 px, .Name y2 py] kt pt] (.Tuple [a, b] k2 pt2) pos :: rest) Γ Po :=
  ss_consG (M1 := M) (N := fun Γ' => Γ' = (Γ.set i (.own R xs)).set j (.own S ys)) (fun G0 H0 G H σ D t s m => of_ps (ps_par hc hN hi hj hij hx hy pa_of hw hs)
    (of_pa (pa_cons pe_of (pa_cons pe_of pa_nil hs2) hs1) (ha H0 G H σ t _ fun p vs zs G1 H1 ez s1 hp1 hg1 hh1 r1 => hb H0 G1 H1 σ (t.step s1) _ fun p' vs' zs' G2 H2 ez' s2 hp2 hg2 hh2 r2 => by
      subst ez ez'
      have S := s1.trans s2
      have t1 := t.putOwn (t.step s1) i hp1 (s.fresh hp1) hg1 hh1 r1
      exact ⟨_, _, rfl, m.nx _ _ G2 H2 rfl (t1.putOwn (t1.step s2) j hp2 ((s.trans s1).fresh hp2) hg2 hh2 r2) (s.trans S)⟩))) fun Γ' q => q ▸ hp
/-! ### an own list is read -/
theorem Stt.view {G H H0 : Hp} {σ : St} {i : Nat} (t : Stt M H0 Γ σ G H) (hi : Γ[i]? = some (.own R xs)) : ∃ (a : Addr) (vs : List V), G a = Option.none ∧ H a = some (.lst vs) ∧ Stt M H0 (Γ.set i (.val (rLst R) xs)) σ (upd G a (.lst vs)) H := by
  obtain ⟨a, vs, h1, h2, h3, h4, h5, h6⟩ := t.ent i _ hi
  have hl : i < Γ.length := (List.getElem?_eq_some_iff.mp hi).1
  have g1 : Same G (upd G a (.lst vs)) := same_upd h3
  have g2 : Same (upd G a (.lst vs)) H := fun b u e => by
    by_cases hb : b = a
    · subst hb; rw [upd_same] at e; cases e; exact h2
    · rw [upd_ne hb] at e; exact t.ok.gh b u e
  have I' : M.I (upd G a (.lst vs)) H := M.up t.ok.i g1 g2 (fun _ _ => rfl) (fun _ _ z => z)
  refine ⟨a, vs, h3, h2, ⟨⟨g2, t.ok.sz, I', fun b hb => ⟨(t.ok.f b hb).1, by rw [upd_ne (fun z => h4 (by rw [← z]; exact hb))]; exact (t.ok.f b hb).2⟩⟩, by simpa using t.len, fun j e h => ?_, fun j k b hjk o1 o2 => ?_⟩⟩
  · by_cases hj : i = j
    · subst hj
      rw [List.getElem?_set_self hl] at h; cases h
      exact ⟨.ref a, h1, a, vs, rfl, .inl upd_same, R.pmono g1 h6⟩
    · rw [List.getElem?_set_ne hj] at h
      have q := t.ent j e h
      cases e with
      | any => trivial
      | val R' x' => obtain ⟨w, z1, z2⟩ := q; exact ⟨w, z1, R'.mono g1 z2⟩
      | own R' xs' =>
        obtain ⟨b, ws, z1, z2, z3, z4, z5, z6⟩ := q
        have nb : b ≠ a := fun z => t.dis i j a hj (by rw [hi]; trivial) (by rw [h]; trivial) h1 (by rw [← z]; exact z1)
        exact ⟨b, ws, z1, z2, by rw [upd_ne nb]; exact z3, z4, z5, R'.pmono g1 z6⟩
      | own2 U =>
        obtain ⟨b, ws, z1, z2, z3, z4, z5, z6⟩ := q
        have nb : b ≠ a := fun z => t.dis i j a hj (by rw [hi]; trivial) (by rw [h]; trivial) h1 (by rw [← z]; exact z1)
        exact ⟨b, ws, z1, z2, by rw [upd_ne nb]; exact z3, z4, z5, U.mono g1 z6⟩
      | adr b => exact q
      | obj b C fs =>
        obtain ⟨dx, ws, z1, z2, z3, z4, z5, z6, z7, z8, z9, z10, z11⟩ := q
        have nb : b ≠ a := fun z => t.dis i j a hj (by rw [hi]; trivial) (by rw [h]; trivial) h1 (by rw [← z]; exact z1)
        have nd : dx ≠ a := fun z => by rw [z, h2] at z3; cases z3
        exact ⟨dx, ws, z1, z2, z3, z4, by rw [upd_ne nb]; exact z5, by rw [upd_ne nd]; exact z6, z7, z8, z9, z10, z11.mono g1⟩
  · have w : ∀ m, IsOwn (Γ.set i (.val (rLst R) xs))[m]? → IsOwn Γ[m]? := fun m o => by
      rcases isOwn_set o with ⟨e, o⟩ | ⟨_, o⟩
      · exact o.elim
      · exact o
    exact t.dis j k b hjk (w j o1) (w k o2)
def wo (a : Addr) (G : Hp) : Hp := fun b => if b = a then none else G b
theorem wo_ne {a b : Addr} {G : Hp} (h : b ≠ a) : wo a G b = G b := if_neg h
theorem wo_same {a : Addr} {G : Hp} : wo a G a = none := if_pos rfl
theorem Step.back {G H G2 H2 : Hp} {a : Addr} {vs : List V} (o : Okk M G H) (ga : G a = none) (s : Step M (upd G a (.lst vs)) H G2 H2) : Step M G H (wo a G2) H2 := by
  have g : Same G (wo a G2) := fun b u e => by
    have hb : b ≠ a := ne_of_none e ga
    rw [wo_ne hb]; exact s.g b u (by rw [upd_ne hb]; exact e)
  have g2 : Same (wo a G2) G2 := fun b u e => by
    by_cases hb : b = a
    · rw [hb, wo_same] at e; cases e
    · rw [wo_ne hb] at e; exact e
  refine ⟨g, g2.trans s.gh, s.sz, s.h, fun b hb e => ?_, M.mix o.i s.i g g2 s.gh (fun c φ e => ?_), s.f⟩
  · by_cases h : b = a
    · rw [h, wo_same]
    · rw [wo_ne h]; exact s.nw b hb (by rw [upd_ne h]; exact e)
  · rw [wo_ne fun z => by rw [z, s.g a _ upd_same] at e; cases e]; exact e
theorem ev_view {T : Rp γ} {P : γ → Prop} (i : Nat) (hi : Γ[i]? = some (.own R xs)) (h : EVp X M e (Γ.set i (.val (rLst R) xs)) T P) (hT : ∀ G G' v x, T.rel G v x → T.rel G' v x) : EVp X M e Γ T P := fun H0 G H σ t Q k => by
  obtain ⟨a, vs, ga, _, t1⟩ := t.view hi
  exact h H0 _ H σ t1 Q fun v x G2 H2 px s r => k v x _ H2 px (s.back t.ok ga) (hT _ _ _ _ r)
theorem ev_viewI {P : Int → Prop} (i : Nat) (hi : Γ[i]? = some (.own R xs)) (h : EVp X M e (Γ.set i (.val (rLst R) xs)) rInt P) : EVp X M e Γ rInt P := ev_view i hi h fun _ _ _ _ h => h
theorem ev_viewB {P : Bool → Prop} (i : Nat) (hi : Γ[i]? = some (.own R xs)) (h : EVp X M e (Γ.set i (.val (rLst R) xs)) rBool P) : EVp X M e Γ rBool P := ev_view i hi h fun _ _ _ _ h => h
theorem tv_view {P : Bool → Prop} (i : Nat) (hi : Γ[i]? = some (.own R xs)) (h : TVp X M e (Γ.set i (.val (rLst R) xs)) P) : TVp X M e Γ P := fun H0 G H σ t Q k => by
  obtain ⟨a, vs, ga, _, t1⟩ := t.view hi
  exact h H0 _ H σ t1 Q fun b G2 H2 px s => k b _ H2 px (s.back t.ok ga)
end
end RT

/-! RT14: defs that change the law's state; the state read and written; isinstance; dict == {}; the script. -/
namespace RT
open PySem L2
open PyProof.Rows (envOfC)
/-! ### defs that change the state: ahead of the call M, behind it N -/
abbrev CtrS := Md → Md → List Ent → (Ent → Prop) → Prop
def spS (C : CtrS) : Sp := fun vs H Q _ => ∃ (M N : Md) (G : Hp) (as : List Ent) (res : Ent → Prop), M.F = N.F ∧ C M N as res ∧ Okk M G H ∧ ArgsOk G vs as ∧ ∀ {α : Type} (R : Rp α) (x : α) (v : V) (G' H' : Hp), res (.val R x) → Step N G H G' H' → R.rel G' v x → Q v H'
section
variable {P : Program} {w : World} {K : PySem.W.Frag} {mg : Str → Option Value} {base : Heap}
theorem fnS_mk {x qual : Str} {st : Stmt} {f : Addr} {fd : FuncData} {N ps : List Str} {k : Nat} {C : CtrS} (F : Fun K x qual st f fd) (S : FnScope N ps (defScope st)) (hl : ∀ M M' as res, C M M' as res → as.length = ps.length)
    (hbody : ∀ (cdv : Value) (A : Around) (outer : List Env) (s : Shared) (H : Hp) (E : XK), Room k (A.deeper (envOfC qual (defScope st) s.heap.objs.size f cdv)) → ∀ M M' as res, C M M' as res →
      SSt (cxOf CX0 P w K mg base N qual (defScope st) f cdv A outer s H E).nox M M' (defBody st) (as ++ List.replicate (N.length - ps.length) Ent.any) { nx := fun _ => res (.val rNone ()), rt := res }) : FnOk P w K mg base CX0 (k + 1) f fd ps (spS C) := by
  have hN : ps.length ≤ N.length := by have := congrArg List.length S.pre; rw [List.length_take] at this; omega
  refine F.ok S (fun vs H Q E ⟨M, M', G, as, res, _, hc, _, ha, _⟩ => by rw [ha.1, hl M M' as res hc]) fun cdv A outer s H vs Q E hr ⟨M, M', G, as, res, hF, hc, o, ha, hq⟩ => ⟨sOf _ _, pss_of, ?_⟩
  have hal := hl M M' as res hc
  have t := stt_start (N := N) o ha (by rw [hal]; exact hN)
  rw [hal] at t
  exact hbody cdv A outer s H E hr M M' as res hc G H G H _ _ t (Step.refl o) ⟨fun Γ σ G' H' n t' s' => hq rNone () .non G' H' n s' rfl, fun R x v G' H' p s' r => hq R x v G' H' p s' r, fun _ _ _ _ z => z.elim, fun _ _ _ _ z => z.elim⟩
end
structure DefSC (P0 : Program) (w0 : World) (K0 : PySem.W.Frag) (mg0 : Str → Option Value) (base0 : Heap) (x : Str) (k : Nat) (f : Addr) (fd : FuncData) (ps : List Str) (C : CtrS) : Prop where
  ok : FnOk P0 w0 K0 mg0 base0 CX0 k f fd ps (spS C)
  mg : mg0 x = some (.ref f)
  kp : PySem.W.keepIn K0 (.ref f) = true
  bd : Binds K0 fd ps []
abbrev DefS (X : Cx) (x : Str) (k : Nat) (f : Addr) (fd : FuncData) (ps : List Str) (C : CtrS) : Prop := DefSC X.prog X.w X.K X.mg X.base x k f fd ps C
section
variable {X : Cx} {M M1 M2 N T' : Md} {Γ : List Ent} {e a b c : Expr} {α β γ : Type} {R : Rp α} {S : Rp β} {x : α} {y : β} {xs : List α} {ys : List β} {P : α → Prop} {P2 : β → Prop} {pos p apos cpos : Pos} {s z : Str} {es : List Expr} {rest : List Stmt} {Po : Post}
theorem ev_callS {nm : Str} {k : Nat} {f : Addr} {fd : FuncData} {ps : List Str} {C : CtrS} {A : List Ent → Prop} (D : DefS X nm k f fd ps C) (hr : Room k X.A) (ha : EAt X M M1 (e :: es) Γ A) (hc : ∀ as, A as → ∃ res, C M1 N as res ∧ ∀ u, res u → ∃ x, P x ∧ u = .val R x) (hF : M.F = M1.F := by first | rfl | assumption) (hF2 : M1.F = N.F := by first | rfl | assumption) (hg : Gl X nm := by rfl)
    (hdb : (nm == ("__debug__" : Str)) = false := by decide) (he : starEach (e :: es) X.env = (false, eval e X.env) :: starEach es X.env := by rfl) (hpl : (backTo pos (starEach es X.env)).any (·.1) = false := by rfl) :
    EVt X M N (.Call (.Name nm p) (e :: es) [] pos) Γ R P := fun H0 G H σ t Q k' =>
  of_pe (pe_call (E := E0) D.ok hr hg D.mg D.kp D.bd .nil pass0 pa_of hdb he hpl) (ha H0 G H σ t _ fun vs as G' H' hA s ar => by
    obtain ⟨res, h1, h2⟩ := hc as hA
    rw [List.append_nil]
    refine ⟨M1, N, G', as, res, hF2, h1, s.okk2 hF t.ok, ar, fun R' x' v G2 H2 hr' s2 r => ?_⟩
    obtain ⟨x, hp, e⟩ := h2 _ hr'
    cases e
    exact k' v x G2 H2 hp (s.trans2 hF2 s2) r)
/-! ### the state is read -/
variable {st g ca : Addr} {n m : Nat}
theorem IS.restD {G H : Hp} (h : IS st g ca n G H) : ∃ r, DGet H st (.str "rest") (some (.int r)) := let ⟨gs, cs, r, t, h1, _⟩ := h; ⟨r, .inl ⟨_, .inr "rest", .inl h1, rfl, by rfl⟩⟩
theorem IS.turn {G H : Hp} (h : IS st g ca n G H) : ∃ t : Int, 0 ≤ t ∧ t ≤ n ∧ DGet H st (.str "turn") (some (.int t)) := let ⟨gs, cs, r, t, h1, _, _, h2, h3⟩ := h; ⟨t, h2, h3, .inl ⟨_, .inr "turn", .inl h1, rfl, by rfl⟩⟩
theorem IS.cells {G H : Hp} (h : IS st g ca n G H) : ∃ cs : List Int, Rd G ca (.lst (cs.map V.int)) ∧ DGet H st (.str "cells") (some (.ref ca)) := let ⟨gs, cs, r, t, h1, _, h4, _⟩ := h; ⟨cs, h4, .inl ⟨_, .inr "cells", .inl h1, rfl, by rfl⟩⟩
theorem IS.great {G H : Hp} (h : IS st g ca n G H) : ∃ gs : List Int, H g = some (.lst (gs.map V.int)) ∧ DGet H st (.str "great") (some (.ref g)) := let ⟨gs, cs, r, t, h1, h2, _⟩ := h; ⟨gs, h2, .inl ⟨_, .inr "great", .inl h1, rfl, by rfl⟩⟩
variable {nm : Str} {np kp : Pos} {kj : Nat}
theorem ev_rest (hu : X.A.units + 1 < cLine) (i : Nat) (hi : Γ[i]? = some (.adr st)) (hN : X.N[i]? = some nm := by rfl) (hv : Vis X.env.scope nm := by first | exact Or.inl rfl | exact Or.inr (Or.inl rfl) | exact Or.inr (Or.inr rfl)) (hd : (nm == ("__debug__" : Str)) = false := by decide)
    (hcd : (nm == ("__classdict__" : Str)) = false := by decide) (hs : NoSl (.Constant (.str "rest") kj kp) := by exact fun _ _ => rfl) : EVp X (MdS st g ca n) (.Subscript (.Name nm np) (.Constant (.str "rest") kj kp) pos) Γ rInt (fun _ => True) := fun H0 G H σ t Q k =>
  of_pe (pe_dget hu (pe_var hN hv hd hcd) pe_str hs) (by
    obtain ⟨r, h⟩ := IS.restD t.ok.i
    exact ⟨_, t.ent i _ hi, st, _, rfl, h, k _ r G H trivial (Step.refl t.ok) rfl⟩)
theorem ev_turn (hu : X.A.units + 1 < cLine) (i : Nat) (hi : Γ[i]? = some (.adr st)) (hN : X.N[i]? = some nm := by rfl) (hv : Vis X.env.scope nm := by first | exact Or.inl rfl | exact Or.inr (Or.inl rfl) | exact Or.inr (Or.inr rfl)) (hd : (nm == ("__debug__" : Str)) = false := by decide)
    (hcd : (nm == ("__classdict__" : Str)) = false := by decide) (hs : NoSl (.Constant (.str "turn") kj kp) := by exact fun _ _ => rfl) : EVp X (MdS st g ca n) (.Subscript (.Name nm np) (.Constant (.str "turn") kj kp) pos) Γ rInt (fun t => 0 ≤ t ∧ t ≤ n) := fun H0 G H σ t Q k =>
  of_pe (pe_dget hu (pe_var hN hv hd hcd) pe_str hs) (by
    obtain ⟨r, h1, h2, h⟩ := IS.turn t.ok.i
    exact ⟨_, t.ent i _ hi, st, _, rfl, h, k _ r G H ⟨h1, h2⟩ (Step.refl t.ok) rfl⟩)
theorem ev_cells (hu : X.A.units + 1 < cLine) (i : Nat) (hi : Γ[i]? = some (.adr st)) (hN : X.N[i]? = some nm := by rfl) (hv : Vis X.env.scope nm := by first | exact Or.inl rfl | exact Or.inr (Or.inl rfl) | exact Or.inr (Or.inr rfl)) (hd : (nm == ("__debug__" : Str)) = false := by decide)
    (hcd : (nm == ("__classdict__" : Str)) = false := by decide) (hs : NoSl (.Constant (.str "cells") kj kp) := by exact fun _ _ => rfl) : EVp X (MdS st g ca n) (.Subscript (.Name nm np) (.Constant (.str "cells") kj kp) pos) Γ (rLst rInt) (fun _ => True) := fun H0 G H σ t Q k =>
  of_pe (pe_dget hu (pe_var hN hv hd hcd) pe_str hs) (by
    obtain ⟨cs, h1, h⟩ := IS.cells t.ok.i
    exact ⟨_, t.ent i _ hi, st, _, rfl, h, k _ cs G H trivial (Step.refl t.ok) ⟨ca, _, rfl, h1, ints_paired cs⟩⟩)
/-! ### the state is written -/
theorem fF : (MdS st g ca n).F = (MdS st g ca m).F := rfl
theorem step_put {G H : Hp} (o : Okk (MdS st g ca n) G H) {H' : Hp} (p : Addr) (u : HO) (hp : p ∈ [st, g]) (hH : H' = upd H p u) (hu : SzU u) (hi : IS st g ca m G H') : Step (MdS st g ca m) G H G H' := by
  subst hH
  have gp : G p = none := (o.f p hp).2
  refine ⟨Same.refl _, same_updR o.gh gp, szOk_upd o.sz hu, fun a v ha e => ?_, fun _ _ e => e, hi, fun a ha => ?_⟩
  · rw [upd_ne fun z => ha (by rw [z]; exact hp)]; exact e
  · by_cases hb : a = p
    · rw [hb, upd_same]; exact fun z => nomatch z
    · rw [upd_ne hb]; exact (o.f a ha).1
theorem ss_putRest {tp : Pos} (hu : X.A.units + 1 < cLine) (i : Nat) (hi : Γ[i]? = some (.adr st)) {P : Int → Prop} (he : EVt X (MdS st g ca n) (MdS st g ca m) e Γ rInt P) (hr : SSt X (MdS st g ca m) T' rest Γ Po) (hN : X.N[i]? = some nm := by rfl) (hv : Vis X.env.scope nm := by first | exact Or.inl rfl | exact Or.inr (Or.inl rfl) | exact Or.inr (Or.inr rfl)) (hd : (nm == ("__debug__" : Str)) = false := by decide)
    (hcd : (nm == ("__classdict__" : Str)) = false := by decide) (hsw : swapsWith e (some (.Subscript (.Name nm np) (.Constant (.str "rest") kj kp) tp)) pos.line X.env = pure false := by rfl) : SSt X (MdS st g ca n) T' (.Assign [.Subscript (.Name nm np) (.Constant (.str "rest") kj kp) tp] e pos :: rest) Γ Po :=
  ss_consG (M1 := MdS st g ca m) (N := fun Γ' => Γ' = Γ) (fun G0 H0 G H σ D t s mt => of_ps (ps_dput hu (pe_var hN hv hd hcd) pe_str pe_of hsw) (he H0 G H σ t _ fun v x G1 H1 _ s1 r1 => by
    have t1 := t.step2 (fF (n := n) (m := m)) s1
    have o1 := t1.ok
    obtain ⟨gs, cs, r, tt, h1, h2, h3, h4⟩ := o1.i
    have ne : g ≠ st := fun q => by rw [q, h1] at h2; cases h2
    rw [show v = V.int x from r1]
    have S1 : Step (MdS st g ca m) G1 H1 G1 (upd H1 st (.dK (dkSt g ca x tt))) := step_put o1 st _ (by simp) rfl trivial ⟨gs, cs, x, tt, upd_same, by rw [upd_ne ne]; exact h2, h3, h4⟩
    exact ⟨_, t.ent i _ hi, st, _, rfl, .inl ⟨_, .inr "rest", h1, rfl, by show 4 < sizeLine; decide, rfl⟩, mt.nx Γ σ G1 _ rfl (t1.step S1) ((s.trans2 (fF (n := n) (m := m)) s1).trans S1)⟩)) fun _ q => q ▸ hr
theorem ss_putTurn {tp : Pos} (hu : X.A.units + 1 < cLine) (i : Nat) (hi : Γ[i]? = some (.adr st)) {P : Int → Prop} (he : EVp X (MdS st g ca n) e Γ rInt P) (hP : ∀ x, P x → 0 ≤ x ∧ x ≤ m) (hr : SSt X (MdS st g ca m) T' rest Γ Po) (hN : X.N[i]? = some nm := by rfl) (hv : Vis X.env.scope nm := by first | exact Or.inl rfl | exact Or.inr (Or.inl rfl) | exact Or.inr (Or.inr rfl)) (hd : (nm == ("__debug__" : Str)) = false := by decide)
    (hcd : (nm == ("__classdict__" : Str)) = false := by decide) (hsw : swapsWith e (some (.Subscript (.Name nm np) (.Constant (.str "turn") kj kp) tp)) pos.line X.env = pure false := by rfl) : SSt X (MdS st g ca n) T' (.Assign [.Subscript (.Name nm np) (.Constant (.str "turn") kj kp) tp] e pos :: rest) Γ Po :=
  ss_consG (M1 := MdS st g ca m) (N := fun Γ' => Γ' = Γ) (fun G0 H0 G H σ D t s mt => of_ps (ps_dput hu (pe_var hN hv hd hcd) pe_str pe_of hsw) (he H0 G H σ t _ fun v x G1 H1 px s1 r1 => by
    have t1 := t.step s1
    have o1 := t1.ok
    obtain ⟨gs, cs, r, tt, h1, h2, h3, h4⟩ := o1.i
    have ne : g ≠ st := fun q => by rw [q, h1] at h2; cases h2
    rw [show v = V.int x from r1]
    have S1 : Step (MdS st g ca m) G1 H1 G1 (upd H1 st (.dK (dkSt g ca r x))) := step_put o1 st _ (by simp) rfl trivial ⟨gs, cs, r, x, upd_same, by rw [upd_ne ne]; exact h2, h3, (hP x px).1, (hP x px).2⟩
    exact ⟨_, t.ent i _ hi, st, _, rfl, .inl ⟨_, .inr "turn", h1, rfl, by show 4 < sizeLine; decide, rfl⟩, mt.nx Γ σ G1 _ rfl (t1.step2 (fF (n := n) (m := m)) S1) ((s.trans s1).trans2 (fF (n := n) (m := m)) S1)⟩)) fun _ q => q ▸ hr
theorem lay_ints : ∀ ns : List Int, PyData.canLayAll0 (ns.map PyData.int) = true
  | [] => rfl
  | n :: ns => by
    show (PyData.canLay0 (.int n) && PyData.canLayAll0 (ns.map PyData.int)) = true
    rw [lay_ints ns]; rfl
theorem depth0_ints : ∀ ns : List Int, PyData.depthAll (ns.map PyData.int) = 0
  | [] => rfl
  | n :: ns => by
    show max (PyData.depth (.int n)) (PyData.depthAll (ns.map PyData.int)) = 0
    rw [depth0_ints ns]; rfl
theorem shaped_ints {ns : List Int} : SeqAt.shaped (.list (ns.map PyData.int)) = true := by
  show (PyData.canLayAll0 (ns.map PyData.int) && decide (PyData.depthAll (ns.map PyData.int) + 1 ≤ 64)) = true
  rw [lay_ints, depth0_ints]; decide
theorem shaped_intsT {ns : List Int} : SeqAt.shaped (.tuple (ns.map PyData.int)) = true := by
  show (PyData.canLayAll0 (ns.map PyData.int) && decide (PyData.depthAll (ns.map PyData.int) + 1 ≤ 64)) = true
  rw [lay_ints, depth0_ints]; decide
/-- state['great'].pop(0) if state['great'] != [] else e -/
theorem ev_great {np2 kp2 p1 p2 p3 p4 p5 : Pos} {kj2 k3 : Nat} {e2 : Expr} (hu : X.A.units + 70 < cLine) (i : Nat) (hi : Γ[i]? = some (.adr st)) (hle : n ≤ m) (h2 : EVt X (MdS st g ca n) (MdS st g ca m) e2 Γ rInt (fun _ => True)) (hN : X.N[i]? = some nm := by rfl) (hv : Vis X.env.scope nm := by first | exact Or.inl rfl | exact Or.inr (Or.inl rfl) | exact Or.inr (Or.inr rfl)) (hd : (nm == ("__debug__" : Str)) = false := by decide)
    (hcd : (nm == ("__classdict__" : Str)) = false := by decide) (hs : NoSl (.Constant (.str "great") kj kp) := by exact fun _ _ => rfl) (hs2 : NoSl (.Constant (.str "great") kj2 kp2) := by exact fun _ _ => rfl)
    (hm : behindInMarks .NotEq (.List [] p2) = false := by exact nomark _) (hb : BmOk X (.Constant (.int 0) k3 p3) [] p4 p5 := by exact ⟨rfl, rfl, rfl, rfl⟩)
    (hbase : attributeBase (.Subscript (.Name nm np2) (.Constant (.str "great") kj2 kp2) apos) "pop" X.env (eval (.Subscript (.Name nm np2) (.Constant (.str "great") kj2 kp2) apos) X.env) = eval (.Subscript (.Name nm np2) (.Constant (.str "great") kj2 kp2) apos) X.env := by rfl) :
    EVt X (MdS st g ca n) (MdS st g ca m) (.IfExp (.Compare (.Subscript (.Name nm np) (.Constant (.str "great") kj kp) pos) [.NotEq] [.List [] p2] p1) (.Call (.Attribute (.Subscript (.Name nm np2) (.Constant (.str "great") kj2 kp2) apos) "pop" p4) [.Constant (.int 0) k3 p3] [] p5) e2 cpos) Γ rInt (fun _ => True) := fun H0 G H σ t Q k =>
  of_pe (pe_ifExp (pt_cmpR (op_neD (by omega)) (pe_dget (by omega) (pe_var hN hv hd hcd) pe_str hs) (pe_lst pa_nil) hm) (pe_bm PySem.F.plainAttrs_list PySem.F.slot_list_pop PySem.F.type_list_pop mt_popAt (pe_dget (by omega) (pe_var hN hv hd hcd) pe_str hs2) (pa_cons pe_int pa_nil hb.st) hbase hb.few hb.line hb.st hb.pl) pe_of) (by
    obtain ⟨gs, hg, hget⟩ := IS.great t.ok.i
    refine ⟨_, t.ent i _ hi, st, _, rfl, hget, Nat.zero_le _, fun p hp => ?_⟩
    have S1 := Step.own (u := .lst []) t.ok hp (Nat.zero_le _)
    have o1 := S1.okk t.ok
    have t1 := t.step S1
    have np : g ≠ p := fun q => by rw [q, hp] at hg; cases hg
    refine ⟨.list (gs.map PyData.int), .list [], .lst (.inl (.inl (by rw [upd_ne np]; exact hg))) (dpAll_of (R := rInt) (G := upd H p (.lst [])) (enc := PyData.int) (fun x _ => fun K G v h => hd_int K _ v h) (ints_paired gs)), .lst (.inl (.inl upd_same)) .nil, shaped_ints, by decide, ⟨_, rfl, ?_⟩⟩
    cases gs with
    | nil =>
      rw [if_neg (by decide)]
      exact h2 H0 G _ σ t1 Q fun v x G2 H2 _ s2 r2 => k v x G2 H2 trivial ((S1.le (Le.up hle)).trans s2) r2
    | cons a gs =>
      rw [if_pos (by rfl)]
      obtain ⟨gs', hg', hget'⟩ := IS.great o1.i
      have eg : gs' = a :: gs := by
        rw [upd_ne np, hg] at hg'
        have q : ((a :: gs).map V.int) = gs'.map V.int := by simpa using hg'
        have inj : ∀ {l l' : List Int}, l.map V.int = l'.map V.int → l' = l := fun {l} => by
          induction l with
          | nil => intro l' h; cases l' with | nil => rfl | cons _ _ => simp at h
          | cons x l ih =>
            intro l' h
            cases l' with
            | nil => simp at h
            | cons y l' =>
              have h' : x = y ∧ l.map V.int = l'.map V.int := by simpa using h
              rw [h'.1, ih h'.2]
        exact inj q
      subst eg
      refine ⟨_, t1.ent i _ hi, st, _, rfl, hget', .inl ⟨rfl, _, .inl (.inl hg')⟩, g, _, 0, 0, .int a, rfl, rfl, hg', by decide, by decide, by simp [seqIndex?], rfl, ?_⟩
      obtain ⟨gs2, cs, r, tt, h1, h2', h3, h4⟩ := o1.i
      have ne : st ≠ g := fun q => by rw [← q, h1] at hg'; cases hg'
      have S2 : Step (MdS st g ca n) G _ G (upd (upd H p (.lst [])) g (.lst (((a :: gs).map V.int).eraseIdx 0))) := step_put o1 g _ (by simp) rfl (by
        have z := o1.sz g _ (.inl (.inl hg'))
        show (((a :: gs).map V.int).eraseIdx 0).length ≤ sizeLine
        simp at z ⊢; omega) ⟨gs, cs, r, tt, by rw [upd_ne ne]; exact h1, by rw [upd_same]; rfl, h3, h4⟩
      exact k _ a G _ trivial ((S1.trans S2).le (Le.up hle)) rfl)
end
end RT

/-! RT15: while; the state begins; isinstance; dict == {}; append of what was popped; the script. -/
namespace RT
open PySem L2
open PyProof.Rows (envOfC)
section
variable {X : Cx} {M M0 M1 M2 N T' : Md} {Γ : List Ent} {e a b c : Expr} {α β γ : Type} {R : Rp α} {S : Rp β} {x : α} {y : β} {xs : List α} {ys : List β} {P : α → Prop} {P2 : β → Prop} {pos p apos cpos : Pos} {s z : Str} {es : List Expr} {body rest : List Stmt} {Po : Post}
/-- while c: body, by a measure; the mode is Mi m where the measure is m -/
theorem ss_while (Mi : Nat → Md) (Mn : Md) (W : Nat → List Ent → Prop) (hp : PassesOwn (model X.prog X.w) X.A X.env X.xe) (m0 : Nat) (hm0 : Mi m0 = M) (hFi : ∀ i, M.F = (Mi i).F) (Γ0 : List Ent) (w : Weak Γ Γ0) (h0 : W m0 Γ0) (hL : ∀ m, Le (Mi m) Mn)
    (hs : ∀ m Γ1, W m Γ1 → ∃ t, TV X (Mi m) c Γ1 t ∧ (t = true → ∃ m', m' < m ∧ SSt X (Mi m) (Mi m') body Γ1 { nx := W m', ct := W m', rt := Po.rt }) ∧ (t = false → SSt X Mn T' rest Γ1 Po)) (hle : Le Mn T' := by first | exact Le.refl _ | assumption | exact Le.up (by omega)) : SSt X M T' (.While c body [] pos :: rest) Γ Po :=
  ss_consL hle (N := fun Γ' => SSt X Mn T' rest Γ' Po) (fun G0 H0 G H σ D t s mt => by
    subst hm0
    refine of_ps (ps_while hp pt_of pss_of) ⟨fun m σ1 H1 => ∃ Γ1 G1, W m Γ1 ∧ Stt (Mi m) H0 Γ1 σ1 G1 H1 ∧ Step (Mi m) G0 H0 G1 H1, ⟨m0, Γ0, G, h0, t.weak w, s⟩, fun m σ1 H1 ⟨Γ1, G1, w1, t1, s1⟩ => ?_⟩
    obtain ⟨tt, hb, ht, hf⟩ := hs m Γ1 w1
    refine hb H0 G1 H1 σ1 t1 _ fun b' G2 H2 e s2 => ?_
    subst e
    have L := hL m
    cases b' with
    | true =>
      rw [if_pos rfl]
      obtain ⟨m', hlt, hbody⟩ := ht rfl
      refine ⟨fun σ' H' => ∃ Γ2 G2, W m' Γ2 ∧ Stt (Mi m') H0 Γ2 σ' G2 H' ∧ Step (Mi m') G0 H0 G2 H', fun σ' H' ⟨Γ2, G3, q⟩ => ⟨m', hlt, Γ2, G3, q⟩, ?_⟩
      exact hbody G0 H0 G2 H2 σ1 _ (t1.step s2) (s1.trans s2) ⟨fun Γ3 σ3 G3 H3 w3 t3 s3 => ⟨Γ3, G3, w3, t3, s3⟩, fun R' x' v' G3 H3 r3 s3 r => (mt.le (hL m')).rt R' x' v' G3 H3 r3 s3 r, fun _ _ _ _ z => z.elim, fun Γ3 σ3 G3 H3 w3 t3 s3 => ⟨Γ3, G3, w3, t3, s3⟩⟩
    | false =>
      rw [if_neg Bool.false_ne_true]
      exact mt.nx Γ1 σ1 G2 H2 (hf rfl) ((t1.step s2).le L) ((s1.trans s2).le L)) fun Γ' h => h
/-! ### isinstance -/
def TyR (K : PySem.W.Frag) {α : Type} (R : Rp α) (x : α) (T : Value) : Prop := ∀ (G H : Hp) (v : V), Same G H → R.rel G v x → TyX K H v T
theorem ty_int {K : PySem.W.Frag} {i : Int} : TyR K rInt i (.type "int") := fun G H v _ r => by rw [show v = V.int i from r]; exact .base (.int i)
theorem ty_bool {K : PySem.W.Frag} {i : Bool} : TyR K rBool i (.type "bool") := fun G H v _ r => by rw [show v = V.bl i from r]; exact .base (.bl i)
theorem ty_str {K : PySem.W.Frag} {i : Str} : TyR K rStr i (.type "str") := fun G H v _ r => by rw [show v = V.str i from r]; exact .base (.str i)
theorem ty_none {K : PySem.W.Frag} : TyR K rNone () (.type "NoneType") := fun G H v _ r => by rw [show v = V.non from r]; exact .base .non
theorem ty_lst {K : PySem.W.Frag} : TyR K (rLst R) xs (.type "list") := fun G H v e ⟨a, vs, q, h, _⟩ => by
  subst q
  rcases rd_up e h with h | ⟨o, h⟩
  · exact .base (.lst h)
  · exact .base (.frz h)
theorem ty_tup {K : PySem.W.Frag} : TyR K (rTup R) xs (.type "tuple") := fun G H v e ⟨a, vs, q, h, _⟩ => by
  subst q
  rcases rd_up e h with h | ⟨o, h⟩
  · exact .base (.tup h)
  · exact .fTuple h
theorem ty_pair {K : PySem.W.Frag} {q : α × β} : TyR K (rPair R S) q (.type "tuple") := fun G H v e ⟨a, v1, v2, q, h, _⟩ => by
  subst q
  rcases rd_up e h with h | ⟨o, h⟩
  · exact .base (.tup h)
  · exact .fTuple h
theorem ty_dic {K : PySem.W.Frag} {kvs : List (Str × α)} : TyR K (rDic R) kvs (.type "dict") := fun G H v e ⟨a, o, vs, q, h, _⟩ => by
  subst q
  exact .fDict (e _ _ h)
/-- what isinstance asks of an own class -/
structure ClsI (K : PySem.W.Frag) (C : Addr) : Prop where
  cl : Cls K C
  ha : PySem.W.findIn K (.ref C) "__class__" = some (some (.builtin "object.__class__"))
  hn : PySem.W.specialIn K (.builtin "object.__class__") "__get__" = some (some (.builtin "getset_descriptor.__get__"))
  tk : PySem.W.takesIn K (.builtin "object.__class__") = some true
  hm : PySem.W.mroIn K C (.type "object") = some true
theorem ty_obj {K : PySem.W.Frag} {C : Addr} {φ : α → List (Str × Fe)} (c : ClsI K C) : TyR K (rObj C φ) x (.ref C) := fun G H v e ⟨a, dx, vs, q, h, _⟩ => by
  subst q
  exact .base (.ins (e _ _ h) c.cl c.ha c.hn c.tk c.hm)
/-- a value that is written or known -/
def rV (cv : V) : Rp Unit := ⟨fun _ v _ => v = cv, fun _ h => h⟩
theorem ev_cls {cv : V} (h : PE X c (tC cv)) : EV X M c Γ (rV cv) () := ev_c h fun _ => rfl
theorem ev_isi {cv : V} {u : Value} {bb : Bool} (hm : X.mg "isinstance" = none) (ha : EVt X M N a Γ R P) (hk : PE X c (tC cv)) (k : ClsV cv u) (hty : ∀ x, P x → ∃ t, TyR X.K R x t ∧ PySem.W.kitOne X.K t u = some bb) (hF : M.F = N.F := by first | rfl | assumption) (hg : Gl X "isinstance" := by rfl)
    (hs : starEach [a, c] X.env = (false, eval a X.env) :: starEach [c] X.env := by rfl) (hs2 : starEach [c] X.env = (false, eval c X.env) :: starEach [] X.env := by rfl) (hpl : (backTo pos (starEach [c] X.env)).any (·.1) = false := by rfl) : EVt X M N (.Call (.Name "isinstance" p) [a, c] [] pos) Γ rBool (fun y => y = bb) :=
  ev_B call_isi hm (by decide +kernel) (ea_consP ha (ea_cons (ev_cls hk) ea_nil hs2) hs hF rfl) (fun _ h => by
    obtain ⟨x, r, px, rfl, rfl⟩ := h
    intro G H vs o ar Q k'
    obtain ⟨v, w, rfl, r1, r2⟩ := args2 ar
    obtain ⟨t, ht, hb⟩ := hty x px
    exact ⟨v, w, t, u, bb, rfl, by rw [show w = cv from r2]; exact k, ht G H v o.gh r1, hb, k' _ _ G H rfl (Step.refl o) rfl⟩) hg (by decide) (by decide) hs hpl
def rTyT (cs : List V) : Rp Unit := ⟨fun G v _ => ∃ a, v = .ref a ∧ G a = some (.tup cs), fun e ⟨a, h, g⟩ => ⟨a, h, e _ _ g⟩⟩
theorem ev_tyT {k2 : Nat} {c1 c2 : Expr} {cv1 cv2 : V} (h1 : PE X c1 (tC cv1)) (h2 : PE X c2 (tC cv2)) (hs : starEach [c1, c2] X.env = (false, eval c1 X.env) :: starEach [c2] X.env := by rfl) (hs2 : starEach [c2] X.env = (false, eval c2 X.env) :: starEach [] X.env := by rfl) : EV X M (.Tuple [c1, c2] k2 pos) Γ (rTyT [cv1, cv2]) () := fun H0 G H σ t Q k =>
  of_pe (pe_tup (pa_cons h1 (pa_cons h2 pa_nil hs2) hs)) ⟨by show 2 ≤ sizeLine; decide, fun p hp => k _ _ _ _ rfl (Step.new t.ok hp (by show 2 ≤ sizeLine; decide)) ⟨p, rfl, upd_same⟩⟩
/-- isinstance(a, (c1, c2)) -/
theorem ev_isi2 {k2 : Nat} {tp : Pos} {c1 c2 : Expr} {cv1 cv2 : V} {u1 u2 : Value} {bb : Bool} (hm : X.mg "isinstance" = none) (ha : EVp X M a Γ R P) (hk1 : PE X c1 (tC cv1)) (hk2 : PE X c2 (tC cv2)) (k1 : ClsV cv1 u1) (k2' : ClsV cv2 u2) (hty : ∀ x, P x → ∃ t, TyR X.K R x t ∧ PySem.W.kitAny X.K t [u1, u2] = some bb) (hg : Gl X "isinstance" := by rfl)
    (hs : starEach [a, .Tuple [c1, c2] k2 tp] X.env = (false, eval a X.env) :: starEach [.Tuple [c1, c2] k2 tp] X.env := by rfl) (hs2 : starEach [.Tuple [c1, c2] k2 tp] X.env = (false, eval (.Tuple [c1, c2] k2 tp) X.env) :: starEach [] X.env := by rfl) (hpl : (backTo pos (starEach [.Tuple [c1, c2] k2 tp] X.env)).any (·.1) = false := by rfl)
    (hs3 : starEach [c1, c2] X.env = (false, eval c1 X.env) :: starEach [c2] X.env := by rfl) (hs4 : starEach [c2] X.env = (false, eval c2 X.env) :: starEach [] X.env := by rfl) : EVp X M (.Call (.Name "isinstance" p) [a, .Tuple [c1, c2] k2 tp] [] pos) Γ rBool (fun y => y = bb) :=
  ev_B call_isiT hm (by decide +kernel) (ea_consP ha (ea_cons (ev_tyT hk1 hk2 hs3 hs4) ea_nil hs2) hs rfl rfl) (fun _ h => by
    obtain ⟨x, r, px, rfl, rfl⟩ := h
    intro G H vs o ar Q k'
    obtain ⟨v, w, rfl, r1, q, rfl, r2⟩ := args2 ar
    obtain ⟨t, ht, hb⟩ := hty x px
    exact ⟨v, q, [cv1, cv2], t, [u1, u2], bb, rfl, o.gh _ _ r2, .cons k1 (.cons k2' .nil), ht G H v o.gh r1, hb, k' _ _ G H rfl (Step.refl o) rfl⟩) hg (by decide) (by decide) hs hpl
/-- a built-in type's name -/
theorem pe_tyn {tn : Str} {id : String} (hm : X.mg tn = none) (hv : bootBuiltins tn = some (.type id)) (hg : Gl X tn := by rfl) (hn : tn ≠ "__name__" := by decide) (hd : (tn == ("__debug__" : Str)) = false := by decide) : PE X (.Name tn pos) (tC (.ty id)) := pe_bltn hg hm hv rfl hn hd
theorem pe_own {tn : Str} {C : Addr} (hm : X.mg tn = some (.ref C)) (hg : Gl X tn := by rfl) (hd : (tn == ("__debug__" : Str)) = false := by decide) : PE X (.Name tn pos) (tC (V.ref C)) := pe_glob hg hm rfl hd
/-! ### dict == {} -/
def rEqE : R2 := fun x y H Q => ∃ a b ks ls, x = .ref a ∧ y = .ref b ∧ Rd H a (.dK ks) ∧ Rd H b (.dK ls) ∧ ks.length ≠ ls.length ∧ Q (.bl false) H
theorem op_eqE (hu : X.A.units < cLine) : OpR X (compareOp .Eq) rEqE := by
  intro pins s σ H x y v u Q I rx ry h
  obtain ⟨a, b, ks, ls, rfl, rfl, ea, eb, hlen, q⟩ := h
  obtain rfl : v = Value.ref a := rx
  obtain rfl : u = Value.ref b := ry
  obtain ⟨_, ya, va, ra, da⟩ := dk_rd I.hok ea
  obtain ⟨_, yb, vb, rb, db⟩ := dk_rd I.hok eb
  have hl : va.length ≠ vb.length := by rw [← ra.length, ← rb.length]; exact hlen
  exact PySem.W.keq_eq (knd := mixKind X.prog X.w) (r := true) ya yb da db hu (fun z => absurd z hl) (fin_bl I q (by simp [hl]))
theorem ev_eqE {kvs : List (Str × α)} {dp : Pos} (hu : X.A.units < cLine) (ha : EV X M a Γ (rDic R) kvs) (h0 : kvs ≠ []) (hm : behindInMarks .Eq (.Dict [] [] dp) = false := by exact nomark _) : EV X M (.Compare a [.Eq] [.Dict [] [] dp] pos) Γ rBool false := fun H0 G H σ t Q k =>
  of_pe (pe_cmpR (op_eqE hu) pe_of pe_dnewK hm) (ha H0 G H σ t _ fun v x G1 H1 e1 s1 r1 => by
    subst e1
    obtain ⟨q, l, rfl, h2, h3⟩ := rDic_rd r1
    intro p hp
    have o1 := s1.okk t.ok
    have S1 := Step.own (u := .dK []) o1 hp trivial
    have hq : Rd H1 q (.dK l) := rd_up s1.gh h2
    have hq' : Rd (upd H1 p (.dK [])) q (.dK l) := same_rd (same_upd hp) hq
    refine ⟨q, p, l, [], rfl, rfl, hq', .inl upd_same, ?_, k _ _ G1 _ rfl (s1.trans S1) rfl⟩
    have := paired_len h3
    cases x with
    | nil => exact absurd rfl h0
    | cons _ _ => rw [this]; simp)
/-! ### xs.append(ys.pop(e)) -/
theorem ss_appendPop {y1 y2 : Str} {Pi : Int → Prop} {xs ys : List α} {np apos cpos np2 apos2 cpos2 : Pos} (i j : Nat) (hij : i ≠ j) (hi : Γ[i]? = some (.own R xs)) (hj : Γ[j]? = some (.own R ys)) (hz : xs.length < 16777216) (he : EVt X M M1 e Γ rInt Pi) (hP : ∀ n, Pi n → 0 ≤ n ∧ n < ys.length)
    (hr : ∀ (n : Nat) (x : α), ys[n]? = some x → SSt X M1 T' rest ((Γ.set j (.own R (ys.eraseIdx n))).set i (.own R (xs ++ [x]))) Po)
    (hN : X.N[i]? = some y1 := by rfl) (hv : Vis X.env.scope y1 := by first | exact Or.inl rfl | exact Or.inr (Or.inl rfl) | exact Or.inr (Or.inr rfl)) (hd : (y1 == ("__debug__" : Str)) = false := by decide) (hcd : (y1 == ("__classdict__" : Str)) = false := by decide)
    (hN2 : X.N[j]? = some y2 := by rfl) (hv2 : Vis X.env.scope y2 := by first | exact Or.inl rfl | exact Or.inr (Or.inl rfl) | exact Or.inr (Or.inr rfl)) (hd2 : (y2 == ("__debug__" : Str)) = false := by decide) (hcd2 : (y2 == ("__classdict__" : Str)) = false := by decide)
    (hb : BmOk X (.Call (.Attribute (.Name y2 np2) "pop" apos2) [e] [] cpos2) [] apos cpos := by exact ⟨rfl, rfl, rfl, rfl⟩) (hb2 : BmOk X e [] apos2 cpos2 := by exact ⟨rfl, rfl, rfl, rfl⟩)
    (hsw : swapsWith (.Call (.Attribute (.Name y1 np) "append" apos) [.Call (.Attribute (.Name y2 np2) "pop" apos2) [e] [] cpos2] [] cpos) none pos.line X.env = pure false := by rfl) (hF : M.F = M1.F := by first | rfl | assumption) :
    SSt X M T' (.Expr (.Call (.Attribute (.Name y1 np) "append" apos) [.Call (.Attribute (.Name y2 np2) "pop" apos2) [e] [] cpos2] [] cpos) pos :: rest) Γ Po :=
  ss_consG (M1 := M1) (N := fun Γ' => ∃ (n : Nat) (x : α), ys[n]? = some x ∧ Γ' = (Γ.set j (.own R (ys.eraseIdx n))).set i (.own R (xs ++ [x]))) (fun G0 H0 G H σ D t s m => by
    obtain ⟨a, vs, h1, h2, h3, h4, h5, h6⟩ := t.ent i _ hi
    obtain ⟨b, ws, g1, g2, g3, g4, g5, g6⟩ := t.ent j _ hj
    refine of_ps (ps_expr (pe_bm PySem.F.plainAttrs_list PySem.F.slot_list_append PySem.F.type_list_append mt_append (pe_var hN hv hd hcd) (pa_cons (pe_bm PySem.F.plainAttrs_list PySem.F.slot_list_pop PySem.F.type_list_pop mt_popAt (pe_var hN2 hv2 hd2 hcd2) (pa_cons pe_of pa_nil hb2.st) rfl hb2.few hb2.line hb2.st hb2.pl) pa_nil hb.st) rfl hb.few hb.line hb.st hb.pl) hsw) ⟨_, h1, .inl ⟨rfl, _, SqL.of h2⟩, _, g1, .inl ⟨rfl, _, SqL.of g2⟩, ?_⟩
    refine he H0 G H σ t _ fun v n G1 H1 pn s1 r1 => ?_
    have t1 := t.step2 hF s1
    obtain ⟨k, rfl⟩ := Int.eq_ofNat_of_zero_le (hP n pn).1
    have hk : k < ys.length := by have := (hP _ pn).2; omega
    obtain ⟨a', vs', h1', h2', h3', h4', h5', h6'⟩ := t1.ent i _ hi
    obtain ⟨b', ws', g1', g2', g3', g4', g5', g6'⟩ := t1.ent j _ hj
    rw [h1] at h1'; cases h1'
    rw [g1] at g1'; cases g1'
    have hl : ws'.length = ys.length := paired_len g6'
    have hl2 : vs'.length = xs.length := paired_len h6'
    obtain ⟨u, hu, ru⟩ := paired_at g6' (List.getElem?_eq_getElem hk)
    have er : ∀ {l : List V} {m : List α} (n : Nat), Paired (R.rel G1) l m → Paired (R.rel G1) (l.eraseIdx n) (m.eraseIdx n) := fun {l m} n h => by
      induction h generalizing n with
      | nil => simpa using Paired.nil
      | cons h t ih =>
        cases n with
        | zero => simpa using t
        | succ n => simpa using Paired.cons h (ih n)
    have hzw : (ws'.eraseIdx k).length ≤ sizeLine := by
      have z := t1.ok.sz b ws' (.inl (.inl g2'))
      have := List.length_eraseIdx_le ws' k
      omega
    have sz : (2 : Int) ^ 63 = 9223372036854775808 := by decide
    have hk16 : k < 2 ^ 24 := by
      have z := t1.ok.sz b ws' (.inl (.inl g2'))
      rw [sizeLine_eq] at z
      omega
    have ne : a ≠ b := fun z => t.dis i j a hij (by rw [hi]; trivial) (by rw [hj]; trivial) h1 (by rw [z]; exact g1)
    refine ⟨b, ws', (k : Int), k, u, rfl, by rw [show v = V.int _ from r1], g2', by rw [sz]; omega, by rw [sz]; omega, ?_, hu, ?_⟩
    · unfold seqIndex?
      rw [hl]
      simp only [show ¬ ((k : Int) < 0) by omega, if_false]
      rw [if_pos]
      · simp
      · simp; omega
    have t2 : Stt M1 H0 (Γ.set j (.own R (ys.eraseIdx k))) σ G1 (upd H1 b (.lst (ws'.eraseIdx k))) := t1.chg hj g1 hzw (er k g6')
    have S2 : Step M1 G0 H0 G1 (upd H1 b (.lst (ws'.eraseIdx k))) := (s.trans2 hF s1).chg t1.ok g3' g4' g5' hzw
    have hi2 : (Γ.set j (.own R (ys.eraseIdx k)))[i]? = some (.own R xs) := by rw [List.getElem?_set_ne (Ne.symm hij)]; exact hi
    have hz' : (vs' ++ [u]).length ≤ sizeLine := by rw [List.length_append, hl2, sizeLine_eq]; simp; omega
    refine ⟨a, vs', u, rfl, rfl, by rw [upd_ne ne]; exact h2', by rw [hl2, sizeLine_eq]; exact hz, ?_⟩
    exact m.nx _ σ G1 _ ⟨k, ys[k], List.getElem?_eq_getElem hk, rfl⟩ (t2.chg hi2 h1 hz' (Paired.snoc h6' ru)) (S2.chg t2.ok h3' h4' h5' hz' (notExtL (vs := vs') (by rw [upd_ne ne]; exact h2')))) fun Γ' ⟨n, x, hx, q⟩ => q ▸ hr n x hx
theorem ev_lenP {q : α × β} (hm : X.mg "len" = none) (ha : EV X M e Γ (rPair R S) q) (hg : Gl X "len" := by rfl) (hs : starEach [e] X.env = (false, eval e X.env) :: starEach [] X.env := by rfl) (hpl : (backTo pos (starEach [] X.env)).any (·.1) = false := by rfl) : EV X M (.Call (.Name "len" p) [e] [] pos) Γ rInt 2 :=
  ev_B call_len_seq hm PySem.boot_len (ea_cons ha ea_nil hs) (fun _ h => by
    subst h
    intro G H vs o ar Q k
    obtain ⟨v, rfl, a, v1, v2, rfl, h2, _⟩ := args1 ar
    exact ⟨a, _, rfl, .inr (.inl (rd_up o.gh h2)), k _ 2 G H rfl (Step.refl o) rfl⟩) hg (by decide) (by decide) hs hpl
theorem _root_.L2.Room.lt {k : Nat} {A : Around} (r : Room k A) (n : Nat) (h : n ≤ 200 := by decide) : A.units + n < cLine := by have := r.un; omega
theorem _root_.L2.Room.lt0 {k : Nat} {A : Around} (r : Room k A) : A.units < cLine := by have := r.un; omega
theorem it_strE {l : List Str} {tg : Expr} (ha : EV X M a Γ rStr z) (hz : z.cps.size ≤ 16777216) (hl : signs z = l) : ITv X M tg a Γ rStr l := hl ▸ it_str ha hz
/-- a sign of a text -/
theorem ev_ixS {i : Int} {c : Nat} (ha : EV X M a Γ rStr s) (hb : EV X M b Γ rInt i) (hz : s.length ≤ sizeLine) (hx : atI s.cps.toList i = some c) (hs : PlainIx b := by exact fun _ _ => rfl) : EV X M (.Subscript a b pos) Γ rStr ⟨#[c]⟩ :=
  ev_op2 (pe_ix ix_str pe_of pe_of hs) ha hb (fun _ _ h1 h2 => by
    subst h1; subst h2
    rintro G H v w o rfl rfl Q k
    exact ⟨_, _, c, rfl, rfl, hz, hx, k _ _ G H rfl (Step.refl o) rfl⟩) rfl rfl
/-! ### the script -/
def rScr (K : PySem.W.Frag) : Rp (List Int) := ⟨fun G v ns => ∃ a, v = .ref a ∧ SqL K G a (ns.map V.int), fun e ⟨a, h, g⟩ => ⟨a, h, g.elim (fun r => .inl (same_rd e r)) .inr⟩⟩
variable {ns : List Int} {tg : Expr}
theorem scr_up {K : PySem.W.Frag} {G H : Hp} {a : Addr} {l : List V} (e : Same G H) (g : SqL K G a l) : SqL K H a l := g.elim (fun r => .inl (same_rd e r)) .inr
theorem ev_lenScr (hm : X.mg "len" = none) (ha : EV X M e Γ (rScr X.K) ns) (hg : Gl X "len" := by rfl) (hs : starEach [e] X.env = (false, eval e X.env) :: starEach [] X.env := by rfl) (hpl : (backTo pos (starEach [] X.env)).any (·.1) = false := by rfl) : EV X M (.Call (.Name "len" p) [e] [] pos) Γ rInt (ns.length : Int) :=
  ev_B call_len_seq hm PySem.boot_len (ea_cons ha ea_nil hs) (fun _ h => by
    subst h
    intro G H vs o ar Q k
    obtain ⟨v, rfl, a, rfl, h2⟩ := args1 ar
    exact ⟨a, _, rfl, .inl (scr_up o.gh h2), k _ (ns.length : Int) G H rfl (Step.refl o) (by rw [List.length_map]; rfl)⟩) hg (by decide) (by decide) hs hpl
theorem it_scr (hz : ns.length ≤ 16777216) (h : EV X M e Γ (rScr X.K) ns) : ITv X M tg e Γ rInt ns := ⟨_, pi_list pe_of, fun H0 G H σ t K k =>
  h H0 G H σ t _ fun v xs G' H' px s r => by
    subst px
    obtain ⟨a, rfl, h2⟩ := r
    have rd := scr_up s.gh h2
    refine ⟨a, rfl, ⟨_, rd⟩, k _ xs G' H' rfl (by rw [sizeLine_eq]; exact hz) s fun M' => ⟨fun H => SqL X.K H a (xs.map V.int), _, fun G1 H1 g1 g2 => scr_up (g1.trans g2) h2, by have := walk_list (K := X.K) (a := a) (xs := xs.map V.int); rw [List.length_map] at this; exact this, fun i H1 v H2 G1 g1 o y => ?_⟩⟩
    obtain ⟨rfl, hy⟩ := y
    obtain ⟨x, h4, h5⟩ := paired_at' (ints_paired (G := G1) xs) hy
    exact ⟨G1, x, h4, Step.refl o, h5⟩⟩
end
end RT

/-! RT16: the law's state begins. -/
namespace RT
open PySem L2
open PyProof.Rows (envOfC)
/-- the def that makes the state -/
def spB (K : PySem.W.Frag) : Sp := fun vs H Q _ => ∃ (G : Hp) (v : V) (ns : List Int), vs = [v] ∧ (rScr K).rel G v ns ∧ ns.length ≤ 16777216 ∧ Okk Md0 G H ∧
  ∀ (st g c : Addr) (G' H' : Hp), Step Md0 G H G' H' → IS st g c 0 G' H' → H st = none → H g = none → G' st = none → G' g = none → Q (.ref st) H'
def SSB (X : Cx) (sts : List Stmt) (Γ : List Ent) : Prop :=
  ∀ (G0 H0 G H : Hp) (σ : St) (D : Ends), Stt Md0 H0 Γ σ G H → Step Md0 G0 H0 G H →
    (∀ (st g c : Addr) (G' H' : Hp), Step Md0 G0 H0 G' H' → IS st g c 0 G' H' → H0 st = none → H0 g = none → G' st = none → G' g = none → D.rt (.ref st) H') → sOf X sts D σ H
section
variable {X : Cx} {Γ : List Ent} {st : Stmt} {rest : List Stmt} {N : List Ent → Prop} {pos : Pos} {Po : Post}
theorem ssB_cons (h1 : S1 X Md0 st Γ { nx := N }) (h2 : ∀ Γ', N Γ' → SSB X rest Γ') : SSB X (st :: rest) Γ := fun G0 H0 G H σ D t s m =>
  of_pss (pss_cons ps_of pss_of) (h1 G0 H0 G H σ { D with nx := sOf X rest D } t s ⟨fun Γ' σ' G' H' n t' s' => h2 Γ' n G0 H0 G' H' σ' D t' s' m, fun _ _ _ _ _ z => z.elim, fun _ _ _ _ z => z.elim, fun _ _ _ _ z => z.elim⟩)
theorem okk0 {G0 H0 G H : Hp} (s : Step Md0 G0 H0 G H) : Okk Md0 G H := ⟨s.gh, s.sz, trivial, fun a h => by cases h⟩
theorem ssB_ret {gs cs : List Int} {e2 : Expr} {nm : Str} {np q1 q2 q3 q4 q5 q6 dp : Pos} {n1 n2 n3 n4 n5 n6 : Nat} (i : Nat) (hi : Γ[i]? = some (.own rInt gs)) (he : EF X Md0 e2 Γ rInt cs) (hN : X.N[i]? = some nm := by rfl) (hv : Vis X.env.scope nm := by first | exact Or.inl rfl | exact Or.inr (Or.inl rfl) | exact Or.inr (Or.inr rfl)) (hd : (nm == ("__debug__" : Str)) = false := by decide)
    (hcd : (nm == ("__classdict__" : Str)) = false := by decide) : SSB X [.Return (some (.Dict [some (.Constant (.str "great") n1 q1), some (.Constant (.str "cells") n2 q2), some (.Constant (.str "rest") n3 q3), some (.Constant (.str "turn") n4 q4)] [.Name nm np, e2, .Constant (.int 0) n5 q5, .Constant (.int 0) n6 q6] dp)) pos] Γ := fun G0 H0 G H σ D t s m =>
  of_pss (pss_one ps_of) (of_ps (ps_ret pe_of) (of_pe (pe_disp (pps_cons pe_str (pe_var hN hv hd hcd) (pps_cons pe_str pe_of (pps_cons pe_str pe_int (pps_cons pe_str pe_int pps_nil)))) rfl rfl (by simp) (by simp)) (fun p hp => by
    obtain ⟨a, vs, h1, h2, h3, h4, h5, h6⟩ := t.ent i _ hi
    have o0 := t.ok
    have S1 := Step.own (u := .dK []) o0 hp trivial
    have t1 := t.step S1
    refine ⟨_, h1, ?_⟩
    refine he H0 G _ σ t1 _ fun q us zs G1 H1 ez s1 hq hg hh r => ?_
    subst ez
    have np' : p ≠ q := fun z => by rw [← z, upd_same] at hq; cases hq
    have na : a ≠ p := fun z => by rw [z, hp] at h2; cases h2
    have H1p : H1 p = some (.dK []) := s1.h p _ (fun z => by cases z) upd_same
    have H1a : H1 a = some (.lst vs) := s1.h a _ (fun z => by cases z) (by rw [upd_ne na]; exact h2)
    have nq : a ≠ q := fun z => by
      have : (upd H p (.dK [])) a = some (.lst vs) := by rw [upd_ne na]; exact h2
      rw [z, hq] at this; cases this
    refine ⟨H1p, dkSt a q 0 0, rfl, by simp [dkSt], ?_⟩
    have em : mergeK [] (dkSt a q 0 0) = dkSt a q 0 0 := rfl
    rw [em]
    have G1p : G1 p = none := s1.nw p (by rw [upd_same]; exact fun z => nomatch z) (o0.gnone hp)
    have G1a : G1 a = none := s1.nw a (by rw [upd_ne na, h2]; exact fun z => nomatch z) h3
    have S2 := (s.trans S1).trans s1
    obtain ⟨S3, _⟩ := S2.frz hg ((s.trans S1).fresh hq) hh
    have S4 := S3.chgU (p := p) (u := .dK (dkSt a q 0 0)) (okk0 S3) (by rw [upd_ne np']; exact G1p) (fun z => by cases z) (s.fresh hp) trivial
    refine m p a q _ _ S4 ⟨gs, zs, 0, 0, upd_same, by rw [upd_ne na, H1a, paired_ints h6], .inl (by rw [upd_same, paired_ints r]), Int.le_refl _, by omega⟩ (s.fresh hp) h5 (by rw [upd_ne np']; exact G1p) (by rw [upd_ne nq]; exact G1a))))
end
section
variable {P : Program} {w : World} {K : PySem.W.Frag} {mg : Str → Option Value} {base : Heap}
theorem fnB_mk {x qual pn : Str} {st : Stmt} {f : Addr} {fd : FuncData} {N : List Str} {k : Nat} (F : Fun K x qual st f fd) (S : FnScope N [pn] (defScope st))
    (hbody : ∀ (cdv : Value) (A : Around) (outer : List Env) (s : Shared) (H : Hp) (E : XK), Room k (A.deeper (envOfC qual (defScope st) s.heap.objs.size f cdv)) → ∀ ns : List Int, ns.length ≤ 16777216 →
      SSB (cxOf CX0 P w K mg base N qual (defScope st) f cdv A outer s H E).nox (defBody st) (.val (rScr K) ns :: List.replicate (N.length - 1) Ent.any)) : FnOk P w K mg base CX0 (k + 1) f fd [pn] (spB K) := by
  have hN : 1 ≤ N.length := by have := congrArg List.length S.pre; rw [List.length_take] at this; simp at this; omega
  refine F.ok S (fun vs H Q E ⟨G, v, ns, e, _⟩ => by rw [e]; rfl) fun cdv A outer s H vs Q E hr ⟨G, v, ns, e, hs, hz, o, hq⟩ => ⟨sOf _ _, pss_of, ?_⟩
  subst e
  have t := stt_start (N := N) (as := [.val (rScr K) ns]) o (argsOk_cons hs argsOk_nil) (by simpa using hN)
  exact hbody cdv A outer s H E hr ns hz G H G H _ _ t (Step.refl o) fun st g c G' H' a b c' d e' f' => hq st g c G' H' a b c' d e' f'
end
structure DefBC (P0 : Program) (w0 : World) (K0 : PySem.W.Frag) (mg0 : Str → Option Value) (base0 : Heap) (x : Str) (k : Nat) (f : Addr) (fd : FuncData) (ps : List Str) : Prop where
  ok : FnOk P0 w0 K0 mg0 base0 CX0 k f fd ps (spB K0)
  mg : mg0 x = some (.ref f)
  kp : PySem.W.keepIn K0 (.ref f) = true
  bd : Binds K0 fd ps []
abbrev DefB (X : Cx) (x : Str) (k : Nat) (f : Addr) (fd : FuncData) (ps : List Str) : Prop := DefBC X.prog X.w X.K X.mg X.base x k f fd ps
section
variable {X : Cx} {Γ : List Ent} {rest : List Stmt} {pos cp np py : Pos} {Po : Post} {a : Expr} {nm y : Str} {f : Addr} {fd : FuncData} {ps : List Str} {k : Nat} {ns : List Int}
/-- state = _law_begun(script) -/
theorem ss_begin (i : Nat) (D : DefB X nm k f fd ps) (hr : Room k X.A) (hNd : X.N.Nodup) (ha : EV X Md0 a Γ (rScr X.K) ns) (hz : ns.length ≤ 16777216) (B : Nat) (hrest : ∀ st g c, SSt X (MdS st g c 0) (MdS st g c B) rest (Γ.set i (.adr st)) { rt := Po.rt })
    (hi : X.N[i]? = some y := by rfl) (hx : Loc X.env.scope y := by first | exact Or.inl rfl | exact Or.inr rfl) (hs : swapsWith (.Call (.Name nm np) [a] [] cp) (some (.Name y py)) pos.line X.env = pure false := by rfl) (hf : X.fn y = true ∨ X.env.scope.names.lookup y = some .local := by first | exact .inl rfl | exact .inr rfl | assumption)
    (hg : Gl X nm := by rfl) (hdb : (nm == ("__debug__" : Str)) = false := by decide) (he : starEach [a] X.env = (false, eval a X.env) :: starEach [] X.env := by rfl) (hpl : (backTo cp (starEach [] X.env)).any (·.1) = false := by rfl) :
    SS X Md0 (.Assign [.Name y py] (.Call (.Name nm np) [a] [] cp) pos :: rest) Γ Po := fun G0 H0 G H σ Dn t s mt =>
  of_pss (pss_cons ps_of pss_of) (of_ps (ps_set (i := i) hNd hi hx pe_of hs hf) (of_pe (pe_call (E := E0) D.ok hr hg D.mg D.kp D.bd .nil pass0 (pa_cons pe_of pa_nil he) hdb he hpl) (ha H0 G H σ t _ fun v ns' G1 H1 e1 s1 r1 => by
    subst e1
    have t1 := t.step s1
    have s' := s.trans s1
    refine ⟨G1, v, ns', rfl, r1, hz, t1.ok, fun st g c G2 H2 s2 hI h1 h2 h3 h4 => ?_⟩
    have t2 := t1.step s2
    have S := s'.trans s2
    have fr : ∀ {b : Addr} {u : HO}, H1 b = some u → b ∉ [st, g] := fun {b u} e z => by
      have z' : b = st ∨ b = g := by simpa using z
      rcases z' with q | q
      · rw [q, h1] at e; cases e
      · rw [q, h2] at e; cases e
    obtain ⟨gs, cs, r, tt, i1, i2, i3, i4⟩ := id hI
    have ok : Okk (MdS st g c 0) G2 H2 := ⟨t2.ok.gh, t2.ok.sz, hI, fun b hb => by
      have z' : b = st ∨ b = g := by simpa [MdS] using hb
      rcases z' with q | q
      · rw [q]; exact ⟨fun z => (by rw [i1] at z; cases z), h3⟩
      · rw [q]; exact ⟨fun z => (by rw [i2] at z; cases z), h4⟩⟩
    have tS : Stt (MdS st g c 0) H0 Γ σ G2 H2 := ⟨ok, t2.len, fun j e hj => by
      have q1 := t1.ent j e hj
      have q := t2.ent j e hj
      cases e with
      | any => trivial
      | val R' x' => exact q
      | adr a => exact q
      | own R' xs' =>
        obtain ⟨b, ws, z1, z2, z3, z4, z5, z6⟩ := q
        obtain ⟨b', ws', y1, y2, _⟩ := q1
        rw [z1] at y1; cases y1
        exact ⟨b, ws, z1, z2, z3, fr y2, z5, z6⟩
      | own2 U =>
        obtain ⟨b, ws, z1, z2, z3, z4, z5, z6⟩ := q
        obtain ⟨b', ws', y1, y2, _⟩ := q1
        rw [z1] at y1; cases y1
        exact ⟨b, ws, z1, z2, z3, fr y2, z5, z6⟩
      | obj b C fs =>
        obtain ⟨dx, ws, z1, z2, z3, z4, z5, z6, z7, z8, z9, z10, z11⟩ := q
        obtain ⟨dx', ws', y1, y2, y3, _⟩ := q1
        have e1 := s2.h b _ (fun z => by cases z) y2
        rw [z2] at e1; cases e1
        exact ⟨dx, ws, z1, z2, z3, z4, z5, z6, fr y2, fr y3, z9, z10, z11⟩, t2.dis⟩
    have tP : Stt (MdS st g c 0) H0 (Γ.set i (.adr st)) (σ.set i (some (V.ref st))) G2 H2 := tS.put (fun hl => List.getElem?_set_self (by rw [tS.len]; exact hl)) (fun z => z.elim)
    have SS' : Step (MdS st g c 0) G0 H0 G2 H2 := ⟨S.g, S.gh, S.sz, fun a o _ e => S.h a o (fun z => by cases z) e, S.nw, hI, fun a ha => (ok.f a ha).1⟩
    have H0st : H0 st = none := s'.fresh h1
    have H0g : H0 g = none := s'.fresh h2
    refine hrest st g c G0 H0 G2 H2 _ _ tP SS' ⟨fun _ _ _ _ z => z.elim, fun R' x' v' G3 H3 hrt s3 r3 => mt.rt R' x' v' G3 H3 hrt ⟨s3.g, s3.gh, s3.sz, fun b o _ e => s3.h b o (fun z => ?_) e, s3.nw, trivial, fun a ha => by cases ha⟩ r3, fun _ _ _ _ z => z.elim, fun _ _ _ _ z => z.elim⟩
    have z' : b = st ∨ b = g := by simpa [MdS] using z
    rcases z' with q | q
    · rw [q, H0st] at e; cases e
    · rw [q, H0g] at e; cases e)))
end
end RT

/-! RT17: lists of written numbers and texts. -/
namespace RT
open PySem L2
def cint : Expr → Option Int
  | .Constant (.int i) _ _ => some i
  | _ => none
def cstr : Expr → Option Str
  | .Constant (.str i) _ _ => some i
  | _ => none
section
variable {X : Cx} {M : Md} {Γ : List Ent} {pos : Pos}
theorem ea_ints : ∀ {es : List Expr} {ns : List Int}, es.map cint = ns.map some → EA X M es Γ (ns.map fun n => Ent.val rInt n)
  | [], [], _ => ea_nil
  | [], _ :: _, h => by simp at h
  | _ :: _, [], h => by simp at h
  | e :: es, n :: ns, h => by
    obtain ⟨h1, h2⟩ := List.cons.inj h
    match e, h1 with
    | .Constant (.int i) j p, h1 =>
      have e1 : i = n := Option.some.inj h1
      subst e1
      exact ea_cons ev_int (ea_ints h2)
theorem ef_ints {es : List Expr} (ns : List Int) (h : es.map cint = ns.map some) (hz : ns.length ≤ 16777216 := by decide) : EF X M (.List es pos) Γ rInt ns := ef_lst (ea_ints h) hz
theorem ea_strs : ∀ {es : List Expr} {ns : List Str}, es.map cstr = ns.map some → EA X M es Γ (ns.map fun n => Ent.val rStr n)
  | [], [], _ => ea_nil
  | [], _ :: _, h => by simp at h
  | _ :: _, [], h => by simp at h
  | e :: es, n :: ns, h => by
    obtain ⟨h1, h2⟩ := List.cons.inj h
    match e, h1 with
    | .Constant (.str i) j p, h1 =>
      have e1 : i = n := Option.some.inj h1
      subst e1
      exact ea_cons ev_str (ea_strs h2)
theorem ef_strs {es : List Expr} (ns : List Str) (h : es.map cstr = ns.map some) (hz : ns.length ≤ 16777216 := by decide) : EF X M (.List es pos) Γ rStr ns := ef_lst (ea_strs h) hz
end
end RT

/-! RT18: z[::-1] of a text. -/
namespace RT
open PySem L2 PySem.Sem PyProof.Rows PySem.Builtin
def revS (z : Str) : Str := ⟨z.cps.toList.reverse.toArray⟩
theorem signs_rev (z : Str) : signs (revS z) = (signs z).reverse := by
  unfold signs revS
  rw [← List.map_reverse]
theorem length_rev (z : Str) : (revS z).length = z.length := by
  show (z.cps.toList.reverse.toArray).size = z.cps.size
  simp
theorem rev_pick (z : Str) : ((Builtin.Str.strSliceIndices none none (-1) z.length).filterMap (z.cps[·]?)).toArray = z.cps.toList.reverse.toArray := by
  show ((sliceRange ((z.cps.size : Int) - 1) (-1) (-1)).filterMap (z.cps[·]?)).toArray = _
  rw [PySem.W.krv_sliceRange, PySem.W.krv_range, List.filterMap_reverse, PySem.W.krv_all]
def tRevS (te : TE) : TE := fun σ H Q => te σ H fun x H1 => ∃ z, x = .str z ∧ z.length ≤ sizeLine ∧ Q (.str (revS z)) H1
section
variable {X : Cx}
theorem pe_revS {e : Expr} {te : TE} {k : Nat} {p1 p2 p3 pos : Pos} (he : PE X e te) : PE X (.Subscript e (.Slice none none (some (.UnaryOp .USub (.Constant (.int 1) k p1) p2)) p3) pos) (tRevS te) := by
  refine ⟨fun pins s σ H Q I h => ?_⟩
  refine Subscript_ (thn (he.run pins s σ H _ I h) fun v s1 ⟨x, H1, I1, r1, q1⟩ => ?_)
  obtain ⟨z, ex, hz, q⟩ := q1
  subst ex
  obtain ⟨t, rfl⟩ := r1
  have hst : PO X (some (.UnaryOp .USub (.Constant (.int 1) k p1) p2)) (tPart (tUn (rU fun i => .int (-i)) (tC (.int 1)))) := po_some (pe_un un_neg pe_int)
  refine wpAny_Slice (thn (po_none.run pins s1 σ H1 (fun o H2 => o = none ∧ H2 = H1) I1 ⟨rfl, rfl⟩) fun vl s2 ⟨l, H2, I2, pl, el, e2⟩ => ?_)
  subst el e2
  refine thn (po_none.run pins s2 σ H2 (fun o H3 => o = none ∧ H3 = H2) I2 ⟨rfl, rfl⟩) fun vu s3 ⟨u, H3, I3, pu, eu, e3⟩ => ?_
  subst eu e3
  refine thn (hst.run pins s3 σ H3 (fun o H4 => o = some (-1) ∧ H4 = H3) I3 ⟨1, rfl, -1, rfl, rfl, rfl⟩) fun vs s4 ⟨o, H4, I4, ps, eo, e4⟩ => ?_
  subst eo e4
  have I5 : Inv X pins σ H4 { s4 with heap := s4.heap.push { cls := .type "slice", data := .fields #[vl, vu, vs] } } := I4.kept (t' := s4.toks) fun b ob q => Heap.get?_push_of_some _ q
  obtain ⟨l, rfl, hl⟩ := IsPart.raw pl
  obtain ⟨u, rfl, hu⟩ := IsPart.raw pu
  obtain ⟨st, rfl, hs⟩ := IsPart.raw ps
  have el : l = none := by cases l with | none => rfl | some _ => cases hl
  have eu : u = none := by cases u with | none => rfl | some _ => cases hu
  subst el eu
  show wpAny (model X.prog X.w) X.A (subscriptTail e (.Slice none none (some (.UnaryOp .USub (.Constant (.int 1) k p1) p2)) p3) (.str z t) (.ref s4.heap.objs.size)) (EP X pins σ Q) X.xe { s4 with heap := s4.heap.push { cls := .type "slice", data := .fields #[partValue none, partValue none, partValue st] } }
  refine tail_any (ops := [.str z t, .ref s4.heap.objs.size]) (typeIs_str _ _ _) (PySem.F.slot_str_getitem.lookup) ?_ (by with_unfolding_all rfl)
  have hs' : (st.map (·.1)).getD 1 = -1 := by rw [hs]; rfl
  refine wpAny_getItem_str_slice (l := none) (u := none) (st := st) ⟨_, Heap.get?_push_size _ rfl, rfl, rfl⟩ (by rw [hs']; rfl) ?_
  unfold sliceMade slicePicked
  rw [hs']
  show Made.post (.str ⟨((Builtin.Str.strSliceIndices none none (-1) z.length).filterMap (z.cps[·]?)).toArray⟩) _ _
  rw [rev_pick]
  exact ⟨by rw [show (⟨z.cps.toList.reverse.toArray⟩ : Str) = revS z from rfl, length_rev]; exact hz, .str (revS z), H4, I5.tok _, ⟨_, rfl⟩, q⟩
variable {M : Md} {Γ : List Ent} {a : Expr} {z : Str} {k : Nat} {p1 p2 p3 pos : Pos}
theorem ev_revS (ha : EV X M a Γ rStr z) (hz : z.length ≤ sizeLine) : EV X M (.Subscript a (.Slice none none (some (.UnaryOp .USub (.Constant (.int 1) k p1) p2)) p3) pos) Γ rStr (revS z) := fun H0 G H σ t Q q =>
  of_pe (pe_revS pe_of) (ha H0 G H σ t _ fun v x G1 H1 e1 s1 r1 => ⟨x, r1, by rw [e1]; exact hz, q _ _ G1 H1 (by rw [e1]) s1 rfl⟩)
end
end RT

/-! RT19: more of drawing: displays, least and greatest of two, lists glued. -/
namespace RT
open PySem L2
theorem paired_append {α β : Type} {F : α → β → Prop} : ∀ {l l2 : List α} {m m2 : List β}, Paired F l m → Paired F l2 m2 → Paired F (l ++ l2) (m ++ m2)
  | _, _, _, _, .nil, h => h
  | _, _, _, _, .cons h t, h2 => .cons h (paired_append t h2)
section
variable {X : Cx} {M M1 N : Md} {Γ : List Ent} {a b : Expr} {es : List Expr} {α : Type} {R : Rp α} {pos p : Pos} {A : List Ent → Prop} {Pi Pj Pk : Int → Prop}
theorem ef_lstP {Pl : List α → Prop} (ha : EAt X M N es Γ A) (hA : ∀ as, A as → ∃ xs, Pl xs ∧ xs.length ≤ 16777216 ∧ as = xs.map fun x => Ent.val R x) (hF : M.F = N.F := by first | rfl | assumption) : EFt X M N (.List es pos) Γ R Pl := fun H0 G H σ t Q k =>
  of_pe (pe_lst pa_of) (ha H0 G H σ t _ fun vs as G' H' e s ar => by
    obtain ⟨xs, px, hz, e⟩ := hA as e
    subst e
    have r := argsAll ar
    have hl : vs.length ≤ sizeLine := by rw [paired_len r, sizeLine_eq]; exact hz
    exact ⟨hl, fun q hq => k q vs xs G' _ px (s.trans (Step.own (s.okk2 hF t.ok) hq hl)) (s.fresh hq) ((s.okk2 hF t.ok).gnone hq) upd_same r⟩)
theorem ev_max2P (hm : X.mg "max" = none) (hcalm : X.calm = true) (ha : EVt X M M1 a Γ rInt Pi) (hb : EVt X M1 N b Γ rInt Pj) (hq : ∀ i j, Pi i → Pj j → Pk (max i j)) (hg : Gl X "max" := by rfl) (hs : starEach [a, b] X.env = (false, eval a X.env) :: starEach [b] X.env := by rfl) (hs2 : starEach [b] X.env = (false, eval b X.env) :: starEach [] X.env := by rfl) (hpl : (backTo pos (starEach [b] X.env)).any (·.1) = false := by rfl) (hF : M.F = M1.F := by first | rfl | assumption) (hF2 : M1.F = N.F := by first | rfl | assumption) : EVt X M N (.Call (.Name "max" p) [a, b] [] pos) Γ rInt Pk :=
  ev_B (call_max2 hcalm) hm (by decide +kernel) (ea_consP ha (ea_consP hb ea_nil hs2 hF2 rfl) hs hF hF2) (fun _ ⟨i, r, pi, ⟨j, r2, pj, e2, e3⟩, e1⟩ => by
    subst e1 e3 e2
    intro G H vs o ar Q k
    obtain ⟨v, w, rfl, h2, h3⟩ := args2 ar
    exact ⟨i, j, by rw [show v = V.int i from h2, show w = V.int j from h3], k _ _ G H (hq i j pi pj) (Step.refl o) (by show V.int _ = V.int _; congr 1; split <;> omega)⟩) hg (by decide) (by decide) hs hpl (hF.trans hF2)
/-- a + b, both made just now -/
theorem ef_cat {P P2 : List α → Prop} (ha : EFt X M M1 a Γ R P) (hb : EFt X M1 N b Γ R P2) (hz : ∀ xs ys, P xs → P2 ys → xs.length + ys.length ≤ 16777216) (hF : M.F = M1.F := by first | rfl | assumption) (hF2 : M1.F = N.F := by first | rfl | assumption) : EFt X M N (.BinOp a .Add b pos) Γ R (fun zs => ∃ xs ys, P xs ∧ P2 ys ∧ zs = xs ++ ys) := fun H0 G H σ t Q k =>
  of_pe (pe_op op_cat pe_of pe_of) (ha H0 G H σ t _ fun q us xs G1 H1 px s1 hq hg hh r1 => by
    have t1 := t.step2 hF s1
    refine hb H0 G1 H1 σ t1 _ fun q2 ws ys G2 H2 py s2 hq2 hg2 hh2 r2 => ?_
    have nf : q ∉ N.F := by rw [← hF2, ← hF]; exact t.ok.nf hq
    have e1 : H2 q = some (.lst us) := s2.h q _ nf hh
    have o2 := s2.okk2 hF2 t1.ok
    have l1 := paired_len r1
    have l2 := paired_len r2
    have hzz : us.length + ws.length ≤ sizeLine := by rw [l1, l2, sizeLine_eq]; exact hz xs ys px py
    refine ⟨q, q2, us, ws, rfl, rfl, e1, hh2, hzz, fun p3 hp3 => ?_⟩
    have hp1 : H p3 = none := s1.fresh (s2.fresh hp3)
    have hsz : SzU (.lst (us ++ ws)) := by show (us ++ ws).length ≤ _; rw [List.length_append]; exact hzz
    exact k p3 (us ++ ws) (xs ++ ys) G2 _ ⟨xs, ys, px, py, rfl⟩ ((s1.trans2 hF2 s2).trans (Step.own o2 hp3 hsz)) hp1 (o2.gnone hp3) upd_same (paired_append (R.pmono s2.g r1) r2))
variable {P : List α → Prop} {tg e : Expr}
/-- a list that was drawn -/
theorem it_listT (h : EVt X M N e Γ (rLst R) P) : ITt X M N tg e Γ R P := ⟨_, pi_list pe_of, fun H0 G H σ t K k =>
  h H0 G H σ t _ fun v xs G' H' px s r => by
    obtain ⟨a, vs, rfl, h2, h3⟩ := r
    have rd := rd_up s.gh h2
    refine ⟨a, rfl, ⟨vs, .inl rd⟩, k _ xs G' H' px (by rw [← paired_len h3]; exact s.sz a vs (.inl rd)) s fun M' => ⟨fun H => SqL X.K H a vs, _, fun G1 H1 g1 g2 => .inl (rd_up g2 (same_rd g1 h2)), by rw [← paired_len h3]; exact walk_list, fun i H1 v H2 G1 g1 o y => ?_⟩⟩
    obtain ⟨rfl, hy⟩ := y
    obtain ⟨x, h4, h5⟩ := paired_at' h3 hy
    exact ⟨G1, x, h4, Step.refl o, R.mono g1 h5⟩⟩
end
end RT

/-! RT20: dicts of one's own: made empty, stored into, read, locked. -/
namespace RT
open PySem L2
/-- a kind of keys -/
structure Kn (κ : Type) where
  enc : κ → Key
  inj : ∀ {a b : κ}, enc a = enc b → a = b
  R : Rp κ
  val : ∀ {G : Hp} {v : V} {k : κ}, R.rel G v k → v = kV (enc k)
  out : ∀ {G : Hp} {k : κ}, R.rel G (kV (enc k)) k
def knI : Kn Int := ⟨Sum.inl, fun h => Sum.inl.inj h, rInt, fun h => h, rfl⟩
def knS : Kn Str := ⟨Sum.inr, fun h => Sum.inr.inj h, rStr, fun h => h, rfl⟩
def KvOk {κ α : Type} (K : Kn κ) (R : Rp α) (G : Hp) (kv : Key × V) (p : κ × α) : Prop := kv.1 = K.enc p.1 ∧ R.rel G kv.2 p.2
theorem KvOk.mono {κ α : Type} {K : Kn κ} {R : Rp α} {G G' : Hp} (e : Same G G') {l : List (Key × V)} {ps : List (κ × α)} (h : Paired (KvOk K R G) l ps) : Paired (KvOk K R G') l ps := paired_imp (fun _ _ q => ⟨q.1, R.mono e q.2⟩) h
def muD {κ α : Type} (K : Kn κ) (R : Rp α) (ps : List (κ × α)) : Mu := ⟨fun G u => ∃ kvs, u = .dK kvs ∧ Paired (KvOk K R G) kvs ps, fun e ⟨kvs, h1, h2⟩ => ⟨kvs, h1, KvOk.mono e h2⟩, (fun ⟨_, h, _⟩ => nomatch h), (fun ⟨_, h, _⟩ => nomatch h)⟩
/-- such a dict, locked for ever -/
def rDicE {κ α : Type} (K : Kn κ) (R : Rp α) : Rp (List (κ × α)) := ⟨fun G v ps => ∃ a o kvs, v = .ref a ∧ G a = some (.frz o (.dK kvs)) ∧ Paired (KvOk K R G) kvs ps, fun e ⟨a, o, kvs, h1, h2, h3⟩ => ⟨a, o, kvs, h1, e _ _ h2, KvOk.mono e h3⟩⟩
theorem rDicE_s {α : Type} {R : Rp α} {G : Hp} {v : V} {ps : List (Str × α)} (h : (rDicE knS R).rel G v ps) : (rDic R).rel G v ps := h
theorem rDicE_s' {α : Type} {R : Rp α} {G : Hp} {v : V} {ps : List (Str × α)} (h : (rDic R).rel G v ps) : (rDicE knS R).rel G v ps := h
def putL {κ α : Type} [BEq κ] (ps : List (κ × α)) (k : κ) (x : α) : List (κ × α) := if (ps.lookup k).isSome then ps.map (fun p => if p.1 == k then (p.1, x) else p) else ps ++ [(k, x)]
section
variable {κ α : Type} [BEq κ] [LawfulBEq κ] {K : Kn κ} {R : Rp α}
theorem valV_kn {G : Hp} : ∀ {l : List (Key × V)} {ps : List (κ × α)} {k : κ}, Paired (KvOk K R G) l ps → (∀ x, ps.lookup k = some x → ∃ v, valV l (K.enc k) = some v ∧ R.rel G v x) ∧ (ps.lookup k = none → valV l (K.enc k) = none)
  | _, _, k, .nil => ⟨fun x h => by simp at h, fun _ => rfl⟩
  | _, _, k, .cons (a := kv) (b := p) h t => by
    obtain ⟨h1, h2⟩ := valV_kn (k := k) t
    by_cases e : p.1 = k
    · have e1 : kv.1 = K.enc k := by rw [h.1, e]
      rw [valV_pos e1]
      have : (k == p.1) = true := by rw [e]; exact BEq.rfl
      rw [List.lookup_cons, this]
      exact ⟨fun x hx => ⟨_, rfl, by cases hx; exact h.2⟩, fun z => nomatch z⟩
    · have e1 : ¬ kv.1 = K.enc k := fun z => e (K.inj (h.1.symm.trans z))
      rw [valV_neg e1]
      have : (k == p.1) = false := by
        cases q : (k == p.1) with
        | true => exact absurd (LawfulBEq.eq_of_beq q).symm e
        | false => rfl
      rw [List.lookup_cons, this]
      exact ⟨h1, h2⟩
theorem lookup_isSome {G : Hp} {l : List (Key × V)} {ps : List (κ × α)} {k : κ} (h : Paired (KvOk K R G) l ps) : (valV l (K.enc k)).isSome = (ps.lookup k).isSome := by
  cases e : ps.lookup k with
  | none => rw [(valV_kn h).2 e]; rfl
  | some x => obtain ⟨v, hv, _⟩ := (valV_kn h).1 x e; rw [hv]; rfl
theorem map_kn {G : Hp} {k : κ} {x : α} {v : V} (hv : R.rel G v x) : ∀ {l : List (Key × V)} {ps : List (κ × α)}, Paired (KvOk K R G) l ps → Paired (KvOk K R G) (l.map fun kv => if kv.1 = K.enc k then (kv.1, v) else kv) (ps.map fun p => if p.1 == k then (p.1, x) else p)
  | _, _, .nil => .nil
  | _, _, .cons (a := kv) (b := p) h t => by
    refine .cons ?_ (map_kn hv t)
    show KvOk K R G (if kv.1 = K.enc k then (kv.1, v) else kv) (if (p.1 == k) = true then (p.1, x) else p)
    by_cases e : p.1 = k
    · rw [if_pos (by rw [h.1, e]), if_pos (by rw [e]; exact BEq.rfl)]
      exact ⟨h.1, hv⟩
    · rw [if_neg (fun z => e (K.inj (h.1.symm.trans z))), if_neg (fun z => e (LawfulBEq.eq_of_beq z))]
      exact h
theorem put_kn {G : Hp} {k : κ} {x : α} {v : V} (hv : R.rel G v x) {l : List (Key × V)} {ps : List (κ × α)} (h : Paired (KvOk K R G) l ps) : Paired (KvOk K R G) (putK l (K.enc k) v) (putL ps k x) := by
  unfold putK putL
  rw [valV_any, lookup_isSome h]
  by_cases e : (ps.lookup k).isSome = true
  · rw [if_pos e, if_pos e]; exact map_kn hv h
  · rw [if_neg e, if_neg e]; exact Paired.snoc h ⟨rfl, hv⟩
end
theorem putL_new {κ α : Type} [BEq κ] {ps : List (κ × α)} {k : κ} {x : α} (h : ps.lookup k = none) : putL ps k x = ps ++ [(k, x)] := by unfold putL; rw [h]; rfl
theorem putL_len {κ α : Type} [BEq κ] (ps : List (κ × α)) (k : κ) (x : α) : (putL ps k x).length ≤ ps.length + 1 := by
  unfold putL
  split
  · rw [List.length_map]; omega
  · rw [List.length_append]; simp
section
variable {X : Cx} {M M1 T N : Md} {H0 G H G' H' G0 : Hp} {Γ : List Ent} {a b e : Expr} {σ : St} {p : Addr} {u w : HO} {U U' : Mu} {i : Nat} {pos py tp np : Pos} {y nm : Str} {rest : List Stmt} {Po : Post}
theorem Stt.putM (t : Stt M H0 Γ σ G H) (t' : Stt M H0 Γ σ G' H') (i : Nat) (hp : H p = Option.none) (h0 : H0 p = Option.none) (hg : G' p = Option.none) (hh : H' p = some u) (r : U.ok G' u) : Stt M H0 (Γ.set i (.own2 U)) (σ.set i (some (V.ref p))) G' H' := by
  refine t'.put (fun hl => ⟨p, u, List.getElem?_set_self (by rw [t.len]; exact hl), hh, hg, t.ok.nf hp, h0, r⟩) (fun _ j a hj ho e q => ?_)
  cases e
  cases e' : Γ[j]? with
  | none => rw [e'] at ho; exact ho
  | some u =>
    rw [e'] at ho
    cases u with
    | own R' xs' =>
      obtain ⟨b, ws, h1, h2, _⟩ := t.ent j _ e'
      rw [q] at h1; cases h1
      rw [hp] at h2; cases h2
    | own2 U =>
      obtain ⟨b, ws, h1, h2, _⟩ := t.ent j _ e'
      rw [q] at h1; cases h1
      rw [hp] at h2; cases h2
    | obj b C fs =>
      obtain ⟨dx, ws, h1, h2, _⟩ := t.ent j _ e'
      rw [q] at h1; cases h1
      rw [hp] at h2; cases h2
    | any => exact ho
    | val _ _ => exact ho
    | adr _ => exact ho
theorem Stt.chgM (t : Stt M H0 Γ σ G H) (hi : Γ[i]? = some (.own2 U)) (hs : σ[i]? = some (some (V.ref p))) (hz : SzU w) (r : U'.ok G w) : Stt M H0 (Γ.set i (.own2 U')) σ G (upd H p w) := by
  obtain ⟨a, v, h1, h2, h3, h4, h5, h6⟩ := t.ent i _ hi
  rw [hs] at h1; cases h1
  have hl : i < Γ.length := (List.getElem?_eq_some_iff.mp hi).1
  refine ⟨⟨same_updR t.ok.gh h3, szOk_upd t.ok.sz hz, M.up t.ok.i (Same.refl _) (same_updR t.ok.gh h3) (fun b hb => upd_ne (fun z => h4 (by rw [← z]; exact hb))) (fun b φ z => by rw [upd_ne fun q => (by rw [q, h2] at z; cases z; exact U.nx h6)]; exact z), fun b hb => ⟨?_, (t.ok.f b hb).2⟩⟩, by simpa using t.len, fun j e h => ?_, fun j k b hjk o1 o2 => ?_⟩
  · rw [upd_ne (fun z => h4 (by rw [← z]; exact hb))]; exact (t.ok.f b hb).1
  · by_cases hj : i = j
    · subst hj
      rw [List.getElem?_set_self hl] at h; cases h
      exact ⟨p, w, hs, upd_same, h3, h4, h5, r⟩
    · rw [List.getElem?_set_ne hj] at h
      refine ent_upd (fun y z => by rw [h2] at z; cases z; exact U.no h6) (t.ent j e h) fun b ob hb z => ?_
      subst z
      exact t.dis i j b hj (by rw [hi]; trivial) (by rw [h]; exact ob) hs hb
  · have w : ∀ m, IsOwn (Γ.set i (.own2 U'))[m]? → IsOwn Γ[m]? := fun m o => by
      rcases isOwn_set o with ⟨e, _⟩ | ⟨_, o⟩
      · rw [e, hi]; trivial
      · exact o
    exact t.dis j k b hjk (w j o1) (w k o2)
variable {κ α : Type} [BEq κ] [LawfulBEq κ] (K : Kn κ) {R : Rp α} {ps : List (κ × α)} {k : κ} {x : α} {P : α → Prop}
/-- name = {} -/
theorem ss_setD0 (R : Rp α) (i : Nat) (hN : X.N.Nodup) (hr : SSt X M T rest (Γ.set i (.own2 (muD K R []))) Po) (hi : X.N[i]? = some y := by rfl) (hx : Loc X.env.scope y := by first | exact Or.inl rfl | exact Or.inr rfl)
    (hs : swapsWith (.Dict [] [] tp) (some (.Name y py)) pos.line X.env = pure false := by rfl) (hf : X.fn y = true ∨ X.env.scope.names.lookup y = some .local := by first | exact .inl rfl | exact .inr rfl | assumption) : SSt X M T (.Assign [.Name y py] (.Dict [] [] tp) pos :: rest) Γ Po :=
  ss_consG (M1 := M) (N := fun Γ' => Γ' = Γ.set i (.own2 (muD K R []))) (fun G0 H0 G H σ D t s m => of_ps (ps_set (i := i) hN hi hx pe_dnewK hs hf) (fun p hp => by
    have st := Step.own (u := .dK []) t.ok hp trivial
    exact m.nx _ _ G _ rfl (t.putM (t.step st) i hp (s.fresh hp) (t.ok.gnone hp) upd_same ⟨[], rfl, .nil⟩) (s.trans st))) fun _ q => q ▸ hr
/-- d[k] = e -/
theorem ss_dput (i : Nat) (hu : X.A.units + 1 < cLine) (hi : Γ[i]? = some (.own2 (muD K R ps))) (hz : ps.length < 16777216) (he : EVt X M M1 e Γ R P) (hk : EV X M1 b Γ K.R k) (hr : ∀ x, P x → SSt X M1 T rest (Γ.set i (.own2 (muD K R (putL ps k x)))) Po)
    (hN : X.N[i]? = some nm := by rfl) (hv : Vis X.env.scope nm := by first | exact Or.inl rfl | exact Or.inr (Or.inl rfl) | exact Or.inr (Or.inr rfl)) (hd : (nm == ("__debug__" : Str)) = false := by decide) (hcd : (nm == ("__classdict__" : Str)) = false := by decide)
    (hsw : swapsWith e (some (.Subscript (.Name nm np) b tp)) pos.line X.env = pure false := by rfl) (hF : M.F = M1.F := by first | rfl | assumption) : SSt X M T (.Assign [.Subscript (.Name nm np) b tp] e pos :: rest) Γ Po :=
  ss_consG (M1 := M1) (N := fun Γ' => ∃ x, P x ∧ Γ' = Γ.set i (.own2 (muD K R (putL ps k x)))) (fun G0 H0 G H σ D t s m => of_ps (ps_dput hu (pe_var hN hv hd hcd) pe_of pe_of hsw) (he H0 G H σ t _ fun v x G1 H1 px s1 r1 => by
    have t1 := t.step2 hF s1
    obtain ⟨q, u, h1, _⟩ := t1.ent i _ hi
    refine ⟨_, h1, hk H0 G1 H1 σ t1 _ fun w z G2 H2 e2 s2 r2 => ?_⟩
    subst e2
    have t2 := t1.step s2
    obtain ⟨q', u, h1', h2, h3, h4, h5, ⟨kvs, rfl, h6⟩⟩ := t2.ent i _ hi
    rw [h1] at h1'; cases h1'
    have hl : kvs.length = ps.length := paired_len h6
    refine ⟨q, _, rfl, .inl ⟨kvs, K.enc z, h2, K.val r2, by rw [hl, sizeLine_eq]; exact hz, rfl⟩, ?_⟩
    have S := (s.trans2 hF s1).trans s2
    exact m.nx _ σ G2 _ ⟨x, px, rfl⟩ (t2.chgM hi h1 trivial ⟨_, rfl, put_kn (R.mono s2.g r1) h6⟩) (S.chgU t2.ok h3 h4 h5 trivial))) fun Γ' ⟨x, px, q⟩ => q ▸ hr x px
theorem dget_own (i : Nat) (t : Stt M H0 Γ σ G H) (hi : Γ[i]? = some (.own2 (muD K R ps))) : ∃ a kvs, σ[i]? = some (some (V.ref a)) ∧ H a = some (.dK kvs) ∧ Paired (KvOk K R G) kvs ps := by
  obtain ⟨q, u, h1, h2, h3, h4, h5, ⟨kvs, rfl, h6⟩⟩ := t.ent i _ hi
  exact ⟨q, kvs, h1, h2, h6⟩
/-- d[k], d one's own -/
theorem ev_dgetO (i : Nat) (hu : X.A.units + 1 < cLine) (hi : Γ[i]? = some (.own2 (muD K R ps))) (hb : EV X M b Γ K.R k) (hx : ps.lookup k = some x) (hN : X.N[i]? = some nm := by rfl) (hv : Vis X.env.scope nm := by first | exact Or.inl rfl | exact Or.inr (Or.inl rfl) | exact Or.inr (Or.inr rfl)) (hd : (nm == ("__debug__" : Str)) = false := by decide) (hcd : (nm == ("__classdict__" : Str)) = false := by decide) (hs : NoSl b := by exact fun _ _ => rfl) : EV X M (.Subscript (.Name nm np) b pos) Γ R x := fun H0 G H σ t Q k' =>
  of_pe (pe_dget hu (pe_var hN hv hd hcd) pe_of hs) (by
    obtain ⟨q, kvs, h1, _⟩ := dget_own K i t hi
    refine ⟨_, h1, hb H0 G H σ t _ fun w z G2 H2 e2 s2 r2 => ?_⟩
    subst e2
    obtain ⟨q', kvs, h1', h2, h6⟩ := dget_own K i (t.step s2) hi
    rw [h1] at h1'; cases h1'
    obtain ⟨v, hv, rv⟩ := (valV_kn h6).1 x hx
    exact ⟨q, v, rfl, .inl ⟨kvs, K.enc z, .inl h2, K.val r2, hv.symm⟩, k' v x G2 H2 rfl s2 rv⟩)
theorem ev_dinO (i : Nat) (hu : X.A.units + 1 < cLine) (hi : Γ[i]? = some (.own2 (muD K R ps))) (hb : EV X M b Γ K.R k) (hN : X.N[i]? = some nm := by rfl) (hv : Vis X.env.scope nm := by first | exact Or.inl rfl | exact Or.inr (Or.inl rfl) | exact Or.inr (Or.inr rfl)) (hd : (nm == ("__debug__" : Str)) = false := by decide) (hcd : (nm == ("__classdict__" : Str)) = false := by decide) (hm : behindInMarks .In (.Name nm np) = false := by rfl) : EV X M (.Compare b [.In] [.Name nm np] pos) Γ rBool (ps.lookup k).isSome := fun H0 G H σ t Q k' =>
  of_pe (pe_cmp (pc_din hu pe_of (pe_var hN hv hd hcd)) hm) (hb H0 G H σ t _ fun w z G2 H2 e2 s2 r2 => by
    subst e2
    obtain ⟨q, kvs, h1, h2, h6⟩ := dget_own K i (t.step s2) hi
    exact ⟨_, h1, q, _, rfl, .inl ⟨kvs, K.enc z, .inl h2, K.val r2, rfl⟩, k' _ _ G2 H2 rfl s2 (by rw [lookup_isSome h6]; rfl)⟩)
theorem ev_dnotinO (i : Nat) (hu : X.A.units + 1 < cLine) (hi : Γ[i]? = some (.own2 (muD K R ps))) (hb : EV X M b Γ K.R k) (hN : X.N[i]? = some nm := by rfl) (hv : Vis X.env.scope nm := by first | exact Or.inl rfl | exact Or.inr (Or.inl rfl) | exact Or.inr (Or.inr rfl)) (hd : (nm == ("__debug__" : Str)) = false := by decide) (hcd : (nm == ("__classdict__" : Str)) = false := by decide) (hm : behindInMarks .NotIn (.Name nm np) = false := by rfl) : EV X M (.Compare b [.NotIn] [.Name nm np] pos) Γ rBool (!(ps.lookup k).isSome) := fun H0 G H σ t Q k' =>
  of_pe (pe_cmp (pc_dnotin hu pe_of (pe_var hN hv hd hcd)) hm) (hb H0 G H σ t _ fun w z G2 H2 e2 s2 r2 => by
    subst e2
    obtain ⟨q, kvs, h1, h2, h6⟩ := dget_own K i (t.step s2) hi
    exact ⟨_, h1, q, _, rfl, .inl ⟨kvs, K.enc z, .inl h2, K.val r2, rfl⟩, k' _ _ G2 H2 rfl s2 (by rw [lookup_isSome h6]; rfl)⟩)
end
end RT

/-! RT21: values and new objects at once (three names), membership in lists of numbers, slices from a place on. -/
namespace RT
open PySem L2
/-- what a value that is not stored yet is told by -/
def NewE (F : List Addr) (H0 G H : Hp) (v : V) : Ent → Prop
  | .any => True
  | .val R x => R.rel G v x
  | .own R xs => ∃ a vs, v = .ref a ∧ H a = some (.lst vs) ∧ G a = none ∧ a ∉ F ∧ H0 a = none ∧ Paired (R.rel G) vs xs
  | .own2 U => ∃ a u, v = .ref a ∧ H a = some u ∧ G a = none ∧ a ∉ F ∧ H0 a = none ∧ U.ok G u
  | _ => False
def Apart (Γ : List Ent) (σ : St) (v : V) : Prop := ∀ (j : Nat) (a : Addr), IsOwn Γ[j]? → σ[j]? = some (some (V.ref a)) → v ≠ V.ref a
section
variable {M N : Md} {H0 G H G' H' : Hp} {Γ : List Ent} {σ : St} {v w : V} {E : Ent} {i : Nat} {p : Addr}
theorem NewE.step (hF : M.F = N.F) (s : Step N G H G' H') : ∀ {E : Ent}, NewE M.F H0 G H v E → NewE N.F H0 G' H' v E
  | .any, _ => trivial
  | .val R x, h => R.mono s.g h
  | .own R xs, ⟨a, vs, h1, h2, h3, h4, h5, h6⟩ => ⟨a, vs, h1, s.h a _ (by rw [← hF]; exact h4) h2, s.nw a (by rw [h2]; exact fun z => nomatch z) h3, by rw [← hF]; exact h4, h5, R.pmono s.g h6⟩
  | .own2 U, ⟨a, vs, h1, h2, h3, h4, h5, h6⟩ => ⟨a, vs, h1, s.h a _ (by rw [← hF]; exact h4) h2, s.nw a (by rw [h2]; exact fun z => nomatch z) h3, by rw [← hF]; exact h4, h5, U.mono s.g h6⟩
  | .adr _, h => h.elim
  | .obj _ _ _, h => h.elim
theorem NewE.ne : ∀ {E : Ent}, NewE M.F H0 G H (V.ref p) E → IsOwn (some E) → H p ≠ none
  | .own R xs, ⟨a, vs, h1, h2, _⟩, _ => by cases h1; rw [h2]; exact fun z => nomatch z
  | .own2 U, ⟨a, vs, h1, h2, _⟩, _ => by cases h1; rw [h2]; exact fun z => nomatch z
  | .any, _, h => h.elim
  | .val _ _, _, h => h.elim
  | .adr _, h, _ => h.elim
  | .obj _ _ _, h, _ => h.elim
theorem NewE.isref {F : List Addr} : ∀ {E : Ent}, NewE F H0 G H v E → IsOwn (some E) → ∃ a, v = V.ref a
  | .own R xs, ⟨a, vs, h1, h2, _⟩, _ => ⟨a, h1⟩
  | .own2 U, ⟨a, vs, h1, h2, _⟩, _ => ⟨a, h1⟩
  | .any, _, h => h.elim
  | .val _ _, _, h => h.elim
  | .adr _, h, _ => h.elim
  | .obj _ _ _, h, _ => h.elim
theorem NewE.apart {F : List Addr} {G2 H2 : Hp} {E2 : Ent} (n1 : NewE M.F H0 G H v E) (o1 : IsOwn (some E)) (n2 : NewE F H0 G2 H2 w E2) (o2 : IsOwn (some E2)) (f : ∀ a, w = V.ref a → H a = Option.none) : v ≠ w := fun e => by
  obtain ⟨a, ea⟩ := n2.isref o2
  rw [e, ea] at n1
  exact n1.ne o1 (f a ea)
theorem Stt.putE (t : Stt M H0 Γ σ G H) (i : Nat) (n : NewE M.F H0 G H v E) (ap : IsOwn (some E) → Apart Γ σ v) : Stt M H0 (Γ.set i E) (σ.set i (some v)) G H := by
  refine t.put (fun hl => ?_) (fun ho j a hj h1 h2 h3 => ap ho j a h1 h3 h2)
  have hs : (σ.set i (some v))[i]? = some (some v) := List.getElem?_set_self (by rw [t.len]; exact hl)
  match E, n with
  | .any, _ => trivial
  | .val R x, n => exact ⟨v, hs, n⟩
  | .own R xs, ⟨a, vs, h1, h2⟩ => subst h1; exact ⟨a, vs, hs, h2⟩
  | .own2 U, ⟨a, vs, h1, h2⟩ => subst h1; exact ⟨a, vs, hs, h2⟩
theorem Stt.own_ne (t : Stt M H0 Γ σ G H) {j : Nat} {a : Addr} (ho : IsOwn Γ[j]?) (hs : σ[j]? = some (some (V.ref a))) : H a ≠ Option.none := by
  cases e : Γ[j]? with
  | none => rw [e] at ho; exact ho.elim
  | some u =>
    rw [e] at ho
    have z := t.ent j u e
    cases u with
    | own R xs => obtain ⟨b, ws, h1, h2, _⟩ := z; rw [hs] at h1; cases h1; rw [h2]; exact fun z => nomatch z
    | own2 U => obtain ⟨b, ws, h1, h2, _⟩ := z; rw [hs] at h1; cases h1; rw [h2]; exact fun z => nomatch z
    | obj b C fs => obtain ⟨dx, ws, h1, h2, _⟩ := z; rw [hs] at h1; cases h1; rw [h2]; exact fun z => nomatch z
    | any => exact ho.elim
    | val _ _ => exact ho.elim
    | adr _ => exact ho.elim
theorem Apart.of (t : Stt M H0 Γ σ G H) (h : ∀ a, v = V.ref a → H a = none) : Apart Γ σ v := fun j a ho hs e => t.own_ne ho hs (h a e)
theorem Apart.set (ap : Apart Γ σ v) (h : IsOwn (some E) → w ≠ v) (hl : σ.length = Γ.length) : Apart (Γ.set i E) (σ.set i (some w)) v := fun j a ho hs e => by
  by_cases hj : i = j
  · subst hj
    by_cases hl2 : i < Γ.length
    · rw [List.getElem?_set_self hl2] at ho
      rw [List.getElem?_set_self (by omega)] at hs
      cases hs
      exact h ho e.symm
    · rw [List.getElem?_eq_none (by simpa using hl2)] at ho; exact ho.elim
  · rw [List.getElem?_set_ne hj] at ho hs
    exact ap j a ho hs e
end
/-- e's value is told by an entry -/
def EEt (X : Cx) (M N : Md) (e : Expr) (Γ : List Ent) (P : Ent → Prop) : Prop :=
  ∀ (H0 G H : Hp) (σ : St), Stt M H0 Γ σ G H → (∀ a, H a = none → H0 a = none) → ∀ Q : VK, (∀ v E G' H', P E → Step N G H G' H' → NewE N.F H0 G' H' v E → (IsOwn (some E) → ∀ a, v = V.ref a → H a = none) → Q v H') → tOf X e σ H Q
section
variable {X : Cx} {M M1 M2 M3 N T : Md} {Γ : List Ent} {a b c e : Expr} {α : Type} {R : Rp α} {x : α} {P P1 P2 P3 : Ent → Prop} {pos p px py pz pt pt2 : Pos} {rest : List Stmt} {Po : Post} {y1 y2 y3 : Str} {kt k2 : Nat}
theorem EEt.v {Pv : α → Prop} (h : EVt X M N e Γ R Pv) : EEt X M N e Γ (fun E => ∃ x, Pv x ∧ E = .val R x) := fun H0 G H σ t _ Q k => h H0 G H σ t Q fun v x G' H' px s r => k v _ G' H' ⟨x, px, rfl⟩ s r (fun z => z.elim)
theorem EEt.V (h : EV X M e Γ R x) : EEt X M M e Γ (fun E => E = .val R x) := fun H0 G H σ t _ Q k => h H0 G H σ t Q fun v y G' H' e s r => by
  subst e
  exact k v (.val R y) G' H' rfl s r (fun z => z.elim)
theorem EEt.F {xs : List α} (h : EF X M e Γ R xs) : EEt X M M e Γ (fun E => E = .own R xs) := fun H0 G H σ t h0 Q k => h H0 G H σ t Q fun p vs ys G' H' e s hp hg hh r => k _ (.own R xs) G' H' rfl s ⟨p, vs, rfl, hh, hg, t.ok.nf hp, h0 p hp, e ▸ r⟩ (fun _ a ea => by cases ea; exact hp)
theorem EEt.D0 {κ α : Type} (K : Kn κ) (R : Rp α) : EEt X M M (.Dict [] [] pos) Γ (fun E => E = .own2 (muD K R [])) := fun H0 G H σ t h0 Q k =>
  of_pe pe_dnewK (fun p hp => by
    have st := Step.own (u := .dK []) t.ok hp trivial
    exact k _ _ G _ rfl st ⟨p, _, rfl, upd_same, t.ok.gnone hp, t.ok.nf hp, h0 p hp, ⟨[], rfl, .nil⟩⟩ (fun _ a ea => by cases ea; exact hp))
/-- x, y, z = a, b, c -/
theorem ss_par3E (i j l : Nat) (hc : X.calm = true) (hN : X.N.Nodup) (hij : i ≠ j) (hil : i ≠ l) (hjl : j ≠ l) (ha : EEt X M M1 a Γ P1) (hb : EEt X M1 M2 b Γ P2) (hcc : EEt X M2 M3 c Γ P3)
    (hp : ∀ E1 E2 E3, P1 E1 → P2 E2 → P3 E3 → SSt X M3 T rest (((Γ.set i E1).set j E2).set l E3) Po)
    (hi : X.N[i]? = some y1 := by rfl) (hj : X.N[j]? = some y2 := by rfl) (hl : X.N[l]? = some y3 := by rfl) (hx : X.env.scope.names.lookup y1 = some .local := by rfl) (hy : X.env.scope.names.lookup y2 = some .local := by rfl) (hz : X.env.scope.names.lookup y3 = some .local := by rfl)
    (hw : swappedStores [.Tuple [.Name y1 px, .Name y2 py, .Name y3 pz] kt pt] (.Tuple [a, b, c] k2 pt2) X.env = pure (some [y1, y2, y3]) := by rfl) (hs : swapsWithSole [.Tuple [.Name y1 px, .Name y2 py, .Name y3 pz] kt pt] (.Tuple [a, b, c] k2 pt2) pos.line X.env = pure false := by rfl)
    (hs1 : starEach [a, b, c] X.env = (false, eval a X.env) :: starEach [b, c] X.env := by rfl) (hs2 : starEach [b, c] X.env = (false, eval b X.env) :: starEach [c] X.env := by rfl) (hs3 : starEach [c] X.env = (false, eval c X.env) :: starEach [] X.env := by rfl) (hF : M.F = M1.F := by first | rfl | assumption) (hF2 : M1.F = M2.F := by first | rfl | assumption) (hF3 : M2.F = M3.F := by first | rfl | assumption) :
    SSt X M T (.Assign [.Tuple [.Name y1 px, .Name y2 py, .Name y3 pz] kt pt] (.Tuple [a, b, c] k2 pt2) pos :: rest) Γ Po :=
  ss_consG (M1 := M3) (N := fun Γ' => ∃ E1 E2 E3, P1 E1 ∧ P2 E2 ∧ P3 E3 ∧ Γ' = ((Γ.set i E1).set j E2).set l E3) (fun G0 H0 G H σ D t s m => of_ps (ps_par3 hc hN hi hj hl hij hil hjl hx hy hz pa_of hw hs)
    (of_pa (pa_cons pe_of (pa_cons pe_of (pa_cons pe_of pa_nil hs3) hs2) hs1) (ha H0 G H σ t (fun q hq => s.fresh hq) _ fun v1 E1 G1 H1 p1 s1 n1 f1 => hb H0 G1 H1 σ (t.step2 hF s1) (fun q hq => s.fresh (s1.fresh hq)) _ fun v2 E2 G2 H2 p2 s2 n2 f2 =>
      hcc H0 G2 H2 σ ((t.step2 hF s1).step2 hF2 s2) (fun q hq => s.fresh (s1.fresh (s2.fresh hq))) _ fun v3 E3 G3 H3 p3 s3 n3 f3 => by
      have t1 := t.step2 hF s1
      have t2 := t1.step2 hF2 s2
      have t3 := t2.step2 hF3 s3
      have n1' := (n1.step hF2 s2).step hF3 s3
      have n2' := n2.step hF3 s3
      have u1 := t3.putE i n1' fun ho => Apart.of t fun q e => f1 ho q e
      have u2 := u1.putE j n2' fun ho => Apart.set (Apart.of t1 fun q e => f2 ho q e) (fun ho1 => n1.apart ho1 n2 ho (f2 ho)) t3.len
      have u3 := u2.putE l n3 fun ho => Apart.set (Apart.set (Apart.of t2 fun q e => f3 ho q e) (fun ho1 => (n1.step hF2 s2).apart ho1 n3 ho (f3 ho)) t3.len) (fun ho1 => n2.apart ho1 n3 ho (f3 ho)) u1.len
      exact ⟨v1, v2, v3, rfl, m.nx _ _ G3 H3 ⟨E1, E2, E3, p1, p2, p3, rfl⟩ u3 (((s.trans2 hF s1).trans2 hF2 s2).trans2 hF3 s3)⟩))) fun Γ' ⟨E1, E2, E3, p1, p2, p3, q⟩ => q ▸ hp E1 E2 E3 p1 p2 p3
theorem flat_ints (l : List Int) : (l.map V.int).all flatV = true := by
  rw [List.all_map, List.all_eq_true]; intro _ _; rfl
theorem inV_ints (n : Int) (l : List Int) : inV (.int n) (l.map V.int) = decide (n ∈ l) := by
  unfold inV
  rw [List.any_map]
  induction l with
  | nil => rfl
  | cons a l ih =>
    rw [List.any_cons, ih]
    show ((a == n) || decide (n ∈ l)) = _
    by_cases h : a = n
    · subst h; simp
    · have : ¬ n = a := fun z => h z.symm
      simp [h, this]
variable {n : Int} {ns : List Int}
theorem ev_inL (ha : EV X M a Γ rInt n) (hb : EV X M b Γ (rLst rInt) ns) (hm : behindInMarks .In b = false := by rfl) : EV X M (.Compare a [.In] [b] pos) Γ rBool (decide (n ∈ ns)) := ev_op2 (pe_cmpR op_in_seq pe_of pe_of hm) ha hb (fun i l h1 h2 G H v w o r1 r2 Q k => by
  subst h1 h2
  obtain ⟨q, vs, rfl, h3, h4⟩ := id r2
  rw [paired_ints h4] at h3
  exact ⟨q, _, rfl, .inl (.inl (rd_up o.gh h3)), by rw [show v = V.int i from r1]; rfl, flat_ints _, k _ _ G H rfl (Step.refl o) (by rw [show v = V.int i from r1, inV_ints]; rfl)⟩)
theorem ev_notinL (ha : EV X M a Γ rInt n) (hb : EV X M b Γ (rLst rInt) ns) (hm : behindInMarks .NotIn b = false := by rfl) : EV X M (.Compare a [.NotIn] [b] pos) Γ rBool (!decide (n ∈ ns)) := ev_op2 (pe_cmpR op_notIn_seq pe_of pe_of hm) ha hb (fun i l h1 h2 G H v w o r1 r2 Q k => by
  subst h1 h2
  obtain ⟨q, vs, rfl, h3, h4⟩ := id r2
  rw [paired_ints h4] at h3
  exact ⟨q, _, rfl, .inl (.inl (rd_up o.gh h3)), by rw [show v = V.int i from r1]; rfl, flat_ints _, k _ _ G H rfl (Step.refl o) (by rw [show v = V.int i from r1, inV_ints]; rfl)⟩)
theorem paired_drop {F : V → α → Prop} : ∀ {l : List V} {m : List α} (n : Nat), Paired F l m → Paired F (l.drop n) (m.drop n)
  | _, _, 0, h => h
  | _, _, n + 1, .nil => .nil
  | _, _, n + 1, .cons _ t => paired_drop n t
/-- xs[i:] -/
theorem ef_from {xs : List α} {i : Int} {p2 : Pos} (ha : EV X M a Γ (rLst R) xs) (hb : EV X M b Γ rInt i) (h0 : 0 ≤ i) : EF X M (.Subscript a (.Slice (some b) none none p2) pos) Γ R (xs.drop i.toNat) := fun H0 G H σ t Q k =>
  of_pe (pe_slice sl_list pe_of (po_some pe_of) po_none) (ha H0 G H σ t _ fun v ys G1 H1 e1 s1 r1 => hb H0 G1 H1 σ (t.step s1) _ fun w j G2 H2 e2 s2 r2 => by
    subst e1 e2
    obtain ⟨q, vs, rfl, h2, h3⟩ := r1
    refine ⟨j, r2, q, vs, rfl, .inl (rd_up s2.gh (same_rd s2.g h2)), fun p hp => ?_⟩
    have hcut : cutV vs (some j) none = vs.drop j.toNat := by
      obtain ⟨n, rfl⟩ := Int.eq_ofNat_of_zero_le h0
      unfold cutV
      rw [HT.sIx_none, show ((n : Nat) : Int) = (n : Int) from rfl, HT.sIx_nat]
      by_cases h : n ≤ vs.length
      · rw [Nat.min_eq_left h, show ((n : Int)).toNat = n from rfl, List.take_of_length_le (by rw [List.length_drop]; omega)]
      · rw [Nat.min_eq_right (by omega), show ((n : Int)).toNat = n from rfl, List.drop_eq_nil_of_le (by omega : vs.length ≤ n)]; simp
    have o2 := s2.okk (s1.okk t.ok)
    have hz : vs.length ≤ sizeLine := o2.sz q vs (.inl (rd_up s2.gh (same_rd s2.g h2)))
    have hz' : (vs.drop j.toNat).length ≤ sizeLine := by rw [List.length_drop]; omega
    rw [hcut]
    have S := s1.trans s2
    exact k p _ (ys.drop j.toNat) G2 _ rfl (S.trans (Step.own o2 hp hz')) (S.fresh hp) (o2.gnone hp) upd_same (paired_drop _ (R.pmono s2.g h3)))
/-- .. of an own list, a new list of numbers out of it -/
theorem ef_viewI {xs : List α} {Pn : List Int → Prop} (i : Nat) (hi : Γ[i]? = some (.own R xs)) (h : EFp X M e (Γ.set i (.val (rLst R) xs)) rInt Pn) : EFp X M e Γ rInt Pn := fun H0 G H σ t Q k => by
  obtain ⟨a, vs, ga, _, t1⟩ := t.view hi
  refine h H0 _ H σ t1 Q fun p vs ys G2 H2 py s hp hg hh r => k p vs ys _ H2 py (s.back t.ok ga) hp (by
    by_cases hb : p = a
    · rw [hb, wo_same]
    · rw [wo_ne hb]; exact hg) hh ?_
  rw [paired_ints r]
  exact ints_paired ys
end
end RT

/-! RT22: operators by methods of one's own class: ==, !=, a[i], and two-place ones. -/
namespace RT
open PySem L2 PyProof.Rows PySem.Builtin
section
variable {X : Cx} {pins : List (Addr × Obj)} {σ : L2.St} {H : Hp} {s : Shared} {Q : VK} {us : List Value} {vs : List V} {k : Nat} {f : Addr} {fd : FuncData} {ps : List Str} {sp : Sp} {A : Around}
/-- a def called at another depth of the same frame -/
theorem run_at (F : FnOk X.prog X.w X.K X.mg X.base CX0 k f fd ps sp) (hr : Room k A) (hfr : A.frames = X.A.frames) (hb : Binds X.K fd ps []) (I : Inv X pins σ H s) (r : Vals vs us) (h : sp vs H Q E0) : wpAny (model X.prog X.w) A (call (.ref f) us) (EP X pins σ Q) X.xe s := by
  have e0 : Env0 X.prog X.w X.K X.mg X.base A X.stack s H := by
    have e := I.env0
    exact ⟨by rw [hfr]; exact e.frames, e.mod, e.bs, e.bsz, e.funs, e.frf, e.hok, e.bare⟩
  have hl := F.len _ _ _ _ h
  have hul : us.length = ps.length := by rw [← r.length]; exact hl
  refine wpAny_call (codeAny_mono (F.run A X.stack s H ⟨us, []⟩ us vs Q E0 hr e0 (by
    have := hb s us I.kIn (by simpa using hul)
    simpa using this) r h) fun q s' hq => ?_)
  cases q with
  | error e => exact hq.elim
  | ok fl =>
    cases fl with
    | ret u => exact I.after hq
    | next => exact False.elim hq
    | brk => exact False.elim hq
    | cont => exact False.elim hq
/-- of two instances of one class -/
def rOwn (C : Addr) (sp : Sp) (g : Bool → Bool) : R2 := fun x y H Q => ∃ a b dx dy fs gs, x = .ref a ∧ y = .ref b ∧ H a = some (.ins C dx fs) ∧ H b = some (.ins C dy gs) ∧ sp [x, y] H (fun v H' => ∃ t, v = .bl t ∧ Q (.bl (g t)) H') E0
theorem op_eqOwn {C : Addr} (m : Meth X.K C "__eq__" f) (F : FnOk X.prog X.w X.K X.mg X.base CX0 k f fd ps sp) (hb : Binds X.K fd ps []) (hr : Room (k + 1) X.A) : OpR X (compareOp .Eq) (rOwn C sp id) := by
  intro pins s σ H x y v u Q I rx ry ⟨a, b, dx, dy, fs, gs, e1, e2, ha, hb', hsp⟩
  subst e1 e2
  cases rx
  cases ry
  show wpAny (model X.prog X.w) X.A (richCompare .Eq (.ref a) (.ref b)) (EP X pins σ Q) X.xe s
  obtain ⟨mA, J, _⟩ := ins_get I.hok ha
  obtain ⟨mB, J', _⟩ := ins_get I.hok hb'
  obtain ⟨od, J, _⟩ := J.look
  obtain ⟨od', J', _⟩ := J'.look
  obtain ⟨m0, hF⟩ := I.fr
  refine PySem.W.cmp_K (op := .Eq) (tb := .ref C) (hr.mono (by omega : 0 ≤ k + 1)).units0 hF I.ok.mod.kin J J'.type (by simp [PySem.W.notFirst]) m.at_ m.fn ?_
  refine wpAny_mono (run_at F (hr.mono (by omega)) rfl hb I (vs := [V.ref a, V.ref b]) (us := [Value.ref a, Value.ref b]) (.cons rfl (.cons rfl .nil)) hsp) (fun r s' q => ?_) fun _ _ x => x
  obtain ⟨z, H', I', rz, t, ez, q⟩ := q
  subst ez
  cases rz
  exact ⟨.bl t, H', I', rfl, q⟩
theorem ifBoundB_K {M : Model} {A : Around} {E : Value → Shared → Prop} {K : PySem.W.Frag} {x C : Addr} {ox : Obj} {od : Option Obj} {name : Str} {id : String} {args : List Value} {Q : Option Value → Shared → Prop} (KX : K.In s.heap) (I : PySem.W.InstAt s.heap x ox C od) (hs : PySem.W.findIn K (.ref C) name = some (some (.builtin id)))
    (hb : ∀ self, bindSpecial (.builtin id) self = pure (.builtin id, [self])) (h : wpAny M A (call (.builtin id) (.ref x :: args)) (fun v => Q (some v)) E s) : wpAny M A (callSpecialIfBound? (.ref x) name args) Q E s := by
  simp only [callSpecialIfBound?, bindSpecialIfBound?]
  refine wpAny_holding (wpAny_bind (wpAny_bind (wpAny_bind (I.type.here ((PySem.W.looks_findIn KX hs).here ?_)))))
  simp only [hb]
  refine wpAny_bind (wpAny_askSetting (wpAny_ite ?_))
  have fin : wpAny M A (call (.builtin id) ([.ref x] ++ args) >>= fun v => pure (some v)) Q E s := wpAny_bind (wpAny_mono h (fun v s' h' => wpAny_pure h') fun _ _ h' => h')
  split
  · exact wpAny_bind (wpAny_pure (wpAny_pure fin))
  · exact wpAny_tryCatch (wpAny_bind (wpAny_pure (wpAny_pure fin)))
theorem op_neOwn {C : Addr} (m : Meth X.K C "__eq__" f) (hne : PySem.W.findIn X.K (.ref C) "__ne__" = some (some (.builtin "object.__ne__"))) (hmro : PySem.W.mroIn X.K C (.type "object") = some true) (F : FnOk X.prog X.w X.K X.mg X.base CX0 k f fd ps sp) (hb : Binds X.K fd ps []) (hr : Room (k + 2) X.A) : OpR X (compareOp .NotEq) (rOwn C sp not) := by
  intro pins s σ H x y v u Q I rx ry ⟨a, b, dx, dy, fs, gs, e1, e2, ha, hb', hsp⟩
  subst e1 e2
  cases rx
  cases ry
  show wpAny (model X.prog X.w) X.A (richCompare .NotEq (.ref a) (.ref b)) (EP X pins σ Q) X.xe s
  obtain ⟨mA, J, _⟩ := ins_get I.hok ha
  obtain ⟨mB, J', _⟩ := ins_get I.hok hb'
  obtain ⟨od, J, _⟩ := J.look
  obtain ⟨od', J', _⟩ := J'.look
  obtain ⟨m0, hF⟩ := I.fr
  have KX := I.ok.mod.kin.keeps hF.keep
  have hu0 : X.A.units < cLine := (hr.mono (by omega : 0 ≤ k + 2)).units0
  have hu1 : X.A.in1.units < cLine := ((hr.mono (by omega : 1 ≤ k + 2)).in1).units0
  have call1 : wpAny (model X.prog X.w) X.A.in1 (call (.ref f) [.ref a, .ref b]) (fun v s' => ∃ t, v = .bool t ∧ EP X pins σ Q (.bool (!t)) s') X.xe s := by
    refine wpAny_mono (run_at F (hr.in1.mono (by omega)) rfl hb I (vs := [V.ref a, V.ref b]) (us := [Value.ref a, Value.ref b]) (.cons rfl (.cons rfl .nil)) hsp) (fun r s' q => ?_) fun _ _ x => x
    obtain ⟨z, H', I', rz, t, ez, q⟩ := q
    subst ez
    cases rz
    exact ⟨t, rfl, .bl (!t), H', I', rfl, q⟩
  have one : wpAny (model X.prog X.w) X.A (tryCompare (.ref a) (cmpInfo .NotEq).2.1 (.ref b)) (fun r s' => ∃ v, r = some v ∧ EP X pins σ Q v s') X.xe s := by
    unfold tryCompare
    refine wpAny_bind (ifBoundB_K KX J hne PySem.F.slot_object_ne.bind ?_)
    refine wpAny_call (codeAny_call_builtin PySem.F.slot_object_ne.plain PySem.F.entry_object_ne (PySem.W.check_slot (i := "object.__ne__") (owner := "object") (n := "__ne__") (by decide +kernel) (by decide +kernel) (J.type.andThen (PySem.W.looks_mroIn KX hmro)) (PySem.F.args_object_ne_2 _ _) ?_))
    unfold Builtin.«object.__ne__»
    refine wpAny_bind (m := slotArgs "__ne__" 1 _) (wpAny_pure ?_)
    refine wpAny_bind (m := cRoomFor _ _) (wpAny_cRoomFor hu1 ?_)
    refine wpAny_bind (m := callSpecialIfBound? (.ref a) (Str.ofString "__eq__") _) (PySem.W.ifBound_K KX J m.at_ m.fn (wpAny_mono call1 (fun r s' hq => ?_) fun _ _ y => y))
    obtain ⟨t, rfl, hq⟩ := hq
    exact wpAny_bind (m := truthy (.bool t)) (wpAny_truthy_bool (wpAny_pure (wpAny_pure ⟨_, rfl, hq⟩)))
  unfold richCompare
  simp only [oneThing_ref]
  refine wpAny_holding (wpAny_bind (wpAny_cRoomFor hu0 ?_))
  refine wpAny_bind (J.type.here (wpAny_bind (J'.type.here ?_)))
  simp only [bne_self_eq_false, Bool.false_eq_true, if_false]
  refine wpAny_bind (wpAny_pure ?_)
  refine wpAny_bind (wpAny_mono one (fun r s' z => ?_) fun _ _ e => e)
  obtain ⟨v, rfl, hq⟩ := z
  exact wpAny_pure hq
def tSubOwn (C : Addr) (sp : Sp) (ta tb : TE) : TE := fun σ H Q => ta σ H fun x H1 => tb σ H1 fun y H2 => ∃ a dx fs, x = .ref a ∧ H2 a = some (.ins C dx fs) ∧ sp [x, y] H2 Q E0
theorem pe_subOwn {C : Addr} {a b : Expr} {pos : Pos} {ta tb : TE} (m : Meth X.K C "__getitem__" f) (hfn : PySem.W.fnIn X.K f = true) (F : FnOk X.prog X.w X.K X.mg X.base CX0 k f fd ps sp) (hbd : Binds X.K fd ps []) (hr : Room (k + 1) X.A) (ha : PE X a ta) (hb : PE X b tb)
    (hsl : ∀ x i, subscripted b true (.ref x) i = runValue (.builtin "lifetime.subscript" ⟨[.ref x, i], []⟩) := by intro _ _; with_unfolding_all rfl) : PE X (.Subscript a b pos) (tSubOwn C sp ta tb) := by
  refine ⟨fun pins s σ H Q I h => ?_⟩
  refine Subscript_ (thn (ha.run pins s σ H _ I h) fun v s1 ⟨x, H1, I1, r1, q1⟩ => thn (hb.run pins s1 σ H1 _ I1 q1) fun u s2 ⟨y, H2, I2, r2, a', dx, fs, ex, h2, hsp⟩ => ?_)
  subst ex
  cases r1
  obtain ⟨mA, J, _⟩ := ins_get I2.hok h2
  obtain ⟨od, J, _⟩ := J.look
  obtain ⟨m0, hF⟩ := I2.fr
  exact PySem.W.sub_K hF I2.ok.mod.kin J m.at_ hfn m.fn (run_at F hr.in1 rfl hbd I2 (vs := [V.ref a', y]) (us := [Value.ref a', u]) (.cons rfl (.cons r2 .nil)) hsp) (hsl _ _)
end
/-- a class's == as its users know it; its != is object's -/
structure EqqC (P0 : Program) (w0 : World) (K0 : PySem.W.Frag) (mg0 : Str → Option Value) (base0 : Heap) (C : Addr) (k : Nat) (fd : FuncData) (ps : List Str) (Ct : Ctr) : Prop where
  ex : ∃ g, Meth K0 C "__eq__" g ∧ FnOk P0 w0 K0 mg0 base0 CX0 k g fd ps (spC Ct)
  bd : Binds K0 fd ps []
  ne : PySem.W.findIn K0 (.ref C) "__ne__" = some (some (.builtin "object.__ne__"))
  mro : PySem.W.mroIn K0 C (.type "object") = some true
abbrev Eqq (X : Cx) (C : Addr) (k : Nat) (fd : FuncData) (ps : List Str) (Ct : Ctr) : Prop := EqqC X.prog X.w X.K X.mg X.base C k fd ps Ct
/-- a class's a[i] as its users know it -/
structure SubC (P0 : Program) (w0 : World) (K0 : PySem.W.Frag) (mg0 : Str → Option Value) (base0 : Heap) (C : Addr) (k : Nat) (fd : FuncData) (ps : List Str) (Ct : Ctr) : Prop where
  ex : ∃ g, Meth K0 C "__getitem__" g ∧ PySem.W.fnIn K0 g = true ∧ FnOk P0 w0 K0 mg0 base0 CX0 k g fd ps (spC Ct)
  bd : Binds K0 fd ps []
abbrev Sub (X : Cx) (C : Addr) (k : Nat) (fd : FuncData) (ps : List Str) (Ct : Ctr) : Prop := SubC X.prog X.w X.K X.mg X.base C k fd ps Ct
section
variable {X : Cx} {M : Md} {Γ : List Ent} {a b : Expr} {C : Addr} {α β γ : Type} {φ : α → List (Str × Fe)} {x y : α} {S : Rp β} {T : Rp γ} {z : β} {u : γ} {k : Nat} {fd : FuncData} {ps : List Str} {Ct : Ctr} {t : Bool} {pos : Pos}
theorem use2 {G H : Hp} {v w : V} {e1 e2 : Ent} {Q : VK} (o : Okk M G H) (h1 : ArgOk G v e1) (h2 : ArgOk G w e2) (hc : Ct M [e1, e2] (fun q => q = .val T u)) (k : ∀ v' G' H', Step M G H G' H' → T.rel G' v' u → Q v' H') : spC Ct [v, w] H Q E0 := by
  have q := spC_use (P := fun q => q = u) (R := T) (Q := Q) (E := E0) hc o (argsOk_cons h1 (argsOk_cons h2 argsOk_nil)) (fun u' hu => ⟨u, rfl, hu⟩) fun v' z' G2 H2 ez s2 r2 => k v' G2 H2 s2 (ez ▸ r2)
  rwa [List.append_nil] at q
theorem ev_eqOwn (ha : EV X M a Γ (rObj C φ) x) (hb : EV X M b Γ (rObj C φ) y) (D : Eqq X C k fd ps Ct) (hr : Room (k + 1) X.A) (hc : Ct M [.val (rObj C φ) x, .val (rObj C φ) y] (fun q => q = .val rBool t)) (hm : behindInMarks .Eq b = false := by exact nomark _) : EV X M (.Compare a [.Eq] [b] pos) Γ rBool t := by
  obtain ⟨g, m, F⟩ := D.ex
  refine ev_op2 (pe_cmpR (op_eqOwn m F D.bd hr) pe_of pe_of hm) ha hb (fun x' y' h1 h2 G H v w o r1 r2 Q q => ?_)
  subst h1 h2
  obtain ⟨p1, d1, f1, e1, g1, _⟩ := id r1
  obtain ⟨p2, d2, f2, e2, g2, _⟩ := id r2
  exact ⟨p1, p2, d1, d2, f1, f2, e1, e2, o.gh _ _ g1, o.gh _ _ g2, use2 (e1 := .val (rObj C φ) x') (e2 := .val (rObj C φ) y') o r1 r2 hc fun v' G' H' s' r' => ⟨t, r', q (.bl t) t G' H' rfl s' rfl⟩⟩
theorem ev_neOwn (ha : EV X M a Γ (rObj C φ) x) (hb : EV X M b Γ (rObj C φ) y) (D : Eqq X C k fd ps Ct) (hr : Room (k + 2) X.A) (hc : Ct M [.val (rObj C φ) x, .val (rObj C φ) y] (fun q => q = .val rBool t)) (hm : behindInMarks .NotEq b = false := by exact nomark _) : EV X M (.Compare a [.NotEq] [b] pos) Γ rBool (!t) := by
  obtain ⟨g, m, F⟩ := D.ex
  refine ev_op2 (pe_cmpR (op_neOwn m D.ne D.mro F D.bd hr) pe_of pe_of hm) ha hb (fun x' y' h1 h2 G H v w o r1 r2 Q q => ?_)
  subst h1 h2
  obtain ⟨p1, d1, f1, e1, g1, _⟩ := id r1
  obtain ⟨p2, d2, f2, e2, g2, _⟩ := id r2
  exact ⟨p1, p2, d1, d2, f1, f2, e1, e2, o.gh _ _ g1, o.gh _ _ g2, use2 (e1 := .val (rObj C φ) x') (e2 := .val (rObj C φ) y') o r1 r2 hc fun v' G' H' s' r' => ⟨t, r', q (.bl (!t)) (!t) G' H' rfl s' rfl⟩⟩
theorem ev_subOwn (ha : EV X M a Γ (rObj C φ) x) (hb : EV X M b Γ S z) (D : Sub X C k fd ps Ct) (hr : Room (k + 1) X.A) (hc : Ct M [.val (rObj C φ) x, .val S z] (fun q => q = .val T u))
    (hsl : ∀ x i, subscripted b true (.ref x) i = runValue (.builtin "lifetime.subscript" ⟨[.ref x, i], []⟩) := by intro _ _; with_unfolding_all rfl) : EV X M (.Subscript a b pos) Γ T u := fun H0 G H σ t Q q => by
  obtain ⟨g, m, hfn, F⟩ := D.ex
  refine of_pe (pe_subOwn m hfn F D.bd hr pe_of pe_of hsl) (ha H0 G H σ t _ fun v x' G1 H1 e1 s1 r1 => hb H0 G1 H1 σ (t.step s1) _ fun w z' G2 H2 e2 s2 r2 => ?_)
  subst e1 e2
  have o2 := s2.okk (s1.okk t.ok)
  have r1' := (rObj C φ).mono s2.g r1
  obtain ⟨p1, d1, f1, e1, g1, _⟩ := id r1'
  exact ⟨p1, d1, f1, e1, o2.gh _ _ g1, use2 (e1 := .val (rObj C φ) x') (e2 := .val S z') o2 r1' r2 hc fun v' G' H' s' r' => q v' u G' H' rfl ((s1.trans s2).trans s') r'⟩
end
end RT

/-! RT23: more entries at once (two names; three names of which some are cells), signs and cuts of texts. -/
namespace RT
open PySem L2
section
variable {X : Cx} {M M1 M2 M3 N T : Md} {Γ : List Ent} {a b c e : Expr} {α : Type} {R : Rp α} {x : α} {P P1 P2 P3 : Ent → Prop} {pos p px py pz pt pt2 : Pos} {rest : List Stmt} {Po : Post} {y1 y2 y3 : Str} {kt k2 : Nat}
/-- x, y = a, b -/
theorem ss_par2E (i j : Nat) (hc : X.calm = true) (hN : X.N.Nodup) (hij : i ≠ j) (ha : EEt X M M1 a Γ P1) (hb : EEt X M1 M2 b Γ P2)
    (hp : ∀ E1 E2, P1 E1 → P2 E2 → SSt X M2 T rest ((Γ.set i E1).set j E2) Po)
    (hi : X.N[i]? = some y1 := by rfl) (hj : X.N[j]? = some y2 := by rfl) (hx : X.env.scope.names.lookup y1 = some .local := by rfl) (hy : X.env.scope.names.lookup y2 = some .local := by rfl)
    (hw : swappedStores [.Tuple [.Name y1 px, .Name y2 py] kt pt] (.Tuple [a, b] k2 pt2) X.env = pure (some [y1, y2]) := by rfl) (hs : swapsWithSole [.Tuple [.Name y1 px, .Name y2 py] kt pt] (.Tuple [a, b] k2 pt2) pos.line X.env = pure false := by rfl)
    (hs1 : starEach [a, b] X.env = (false, eval a X.env) :: starEach [b] X.env := by rfl) (hs2 : starEach [b] X.env = (false, eval b X.env) :: starEach [] X.env := by rfl) (hF : M.F = M1.F := by first | rfl | assumption) (hF2 : M1.F = M2.F := by first | rfl | assumption) :
    SSt X M T (.Assign [.Tuple [.Name y1 px, .Name y2 py] kt pt] (.Tuple [a, b] k2 pt2) pos :: rest) Γ Po :=
  ss_consG (M1 := M2) (N := fun Γ' => ∃ E1 E2, P1 E1 ∧ P2 E2 ∧ Γ' = (Γ.set i E1).set j E2) (fun G0 H0 G H σ D t s m => of_ps (ps_par hc hN hi hj hij hx hy pa_of hw hs)
    (of_pa (pa_cons pe_of (pa_cons pe_of pa_nil hs2) hs1) (ha H0 G H σ t (fun q hq => s.fresh hq) _ fun v1 E1 G1 H1 p1 s1 n1 f1 => hb H0 G1 H1 σ (t.step2 hF s1) (fun q hq => s.fresh (s1.fresh hq)) _ fun v2 E2 G2 H2 p2 s2 n2 f2 => by
      have t1 := t.step2 hF s1
      have t2 := t1.step2 hF2 s2
      have u1 := t2.putE i (n1.step hF2 s2) fun ho => Apart.of t fun q e => f1 ho q e
      have u2 := u1.putE j n2 fun ho => Apart.set (Apart.of t1 fun q e => f2 ho q e) (fun ho1 => n1.apart ho1 n2 ho (f2 ho)) t2.len
      exact ⟨v1, v2, rfl, m.nx _ _ G2 H2 ⟨E1, E2, p1, p2, rfl⟩ u2 ((s.trans2 hF s1).trans2 hF2 s2)⟩))) fun Γ' ⟨E1, E2, p1, p2, q⟩ => q ▸ hp E1 E2 p1 p2
/-- x, y, z = a, b, c where a tuple is made for it -/
theorem ss_par3C (i j l : Nat) (hc : X.calm = true) (hN : X.N.Nodup) (hij : i ≠ j) (hil : i ≠ l) (hjl : j ≠ l) (ha : EEt X M M1 a Γ P1) (hb : EEt X M1 M2 b Γ P2) (hcc : EEt X M2 M3 c Γ P3)
    (hp : ∀ E1 E2 E3, P1 E1 → P2 E2 → P3 E3 → SSt X M3 T rest (((Γ.set i E1).set j E2).set l E3) Po)
    (hi : X.N[i]? = some y1 := by rfl) (hj : X.N[j]? = some y2 := by rfl) (hl : X.N[l]? = some y3 := by rfl)
    (hx : Loc X.env.scope y1 := by first | exact Or.inl rfl | exact Or.inr rfl) (hy : Loc X.env.scope y2 := by first | exact Or.inl rfl | exact Or.inr rfl) (hz : Loc X.env.scope y3 := by first | exact Or.inl rfl | exact Or.inr rfl)
    (hf1 : X.fn y1 = true ∨ X.env.scope.names.lookup y1 = some .local := by first | exact .inl rfl | exact .inr rfl | assumption) (hf2 : X.fn y2 = true ∨ X.env.scope.names.lookup y2 = some .local := by first | exact .inl rfl | exact .inr rfl | assumption) (hf3 : X.fn y3 = true ∨ X.env.scope.names.lookup y3 = some .local := by first | exact .inl rfl | exact .inr rfl | assumption)
    (h1 : assignEach [.Name y1 px, .Name y2 py, .Name y3 pz] X.env = (false, assign (.Name y1 px) X.env) :: assignEach [.Name y2 py, .Name y3 pz] X.env := by rfl) (h2 : assignEach [.Name y2 py, .Name y3 pz] X.env = (false, assign (.Name y2 py) X.env) :: assignEach [.Name y3 pz] X.env := by rfl) (h3 : assignEach [.Name y3 pz] X.env = (false, assign (.Name y3 pz) X.env) :: assignEach [] X.env := by rfl)
    (hn : (assignEach [.Name y1 px, .Name y2 py, .Name y3 pz] X.env).length = 3 := by rfl) (hst : (assignEach [.Name y1 px, .Name y2 py, .Name y3 pz] X.env).findIdx? (·.1) = none := by rfl)
    (hw : swappedStores [.Tuple [.Name y1 px, .Name y2 py, .Name y3 pz] kt pt] (.Tuple [a, b, c] k2 pt2) X.env = pure none := by rfl) (hs : swapsWithSole [.Tuple [.Name y1 px, .Name y2 py, .Name y3 pz] kt pt] (.Tuple [a, b, c] k2 pt2) pos.line X.env = pure false := by rfl)
    (ht1 : (assignEach [.Tuple [.Name y1 px, .Name y2 py, .Name y3 pz] kt pt] X.env).map (·.2) = [assign (.Tuple [.Name y1 px, .Name y2 py, .Name y3 pz] kt pt) X.env] := by rfl)
    (hs1 : starEach [a, b, c] X.env = (false, eval a X.env) :: starEach [b, c] X.env := by rfl) (hs2 : starEach [b, c] X.env = (false, eval b X.env) :: starEach [c] X.env := by rfl) (hs3 : starEach [c] X.env = (false, eval c X.env) :: starEach [] X.env := by rfl) (hF : M.F = M1.F := by first | rfl | assumption) (hF2 : M1.F = M2.F := by first | rfl | assumption) (hF3 : M2.F = M3.F := by first | rfl | assumption) :
    SSt X M T (.Assign [.Tuple [.Name y1 px, .Name y2 py, .Name y3 pz] kt pt] (.Tuple [a, b, c] k2 pt2) pos :: rest) Γ Po :=
  ss_consG (M1 := M3) (N := fun Γ' => ∃ E1 E2 E3, P1 E1 ∧ P2 E2 ∧ P3 E3 ∧ Γ' = ((Γ.set i E1).set j E2).set l E3) (fun G0 H0 G H σ D t s m => of_ps (ps_asg (pe_tup (pa_cons pe_of (pa_cons pe_of (pa_cons pe_of pa_nil hs3) hs2) hs1)) (pg_tup hc (pgs_cons (pg_name hN hi hx hf1) (pgs_cons (pg_name hN hj hy hf2) (pgs_cons (pg_name hN hl hz hf3) pgs_nil))) hn hst) hs hw ht1)
    (ha H0 G H σ t (fun q hq => s.fresh hq) _ fun v1 E1 G1 H1 p1 s1 n1 f1 => hb H0 G1 H1 σ (t.step2 hF s1) (fun q hq => s.fresh (s1.fresh hq)) _ fun v2 E2 G2 H2 p2 s2 n2 f2 =>
      hcc H0 G2 H2 σ ((t.step2 hF s1).step2 hF2 s2) (fun q hq => s.fresh (s1.fresh (s2.fresh hq))) _ fun v3 E3 G3 H3 p3 s3 n3 f3 => by
      have t1 := t.step2 hF s1
      have t2 := t1.step2 hF2 s2
      have t3 := t2.step2 hF3 s3
      refine ⟨by show 3 ≤ sizeLine; decide, fun q hq => ⟨q, [v1, v2, v3], rfl, .inl (.inl upd_same), rfl, v1, [v2, v3], rfl, v2, [v3], rfl, v3, [], rfl, rfl, ?_⟩⟩
      have s4 : Step M3 G3 H3 (upd G3 q (.tup [v1, v2, v3])) (upd H3 q (.tup [v1, v2, v3])) := Step.new t3.ok hq (by show 3 ≤ sizeLine; decide)
      have t4 := t3.step s4
      have n1' := ((n1.step hF2 s2).step hF3 s3).step rfl s4
      have n2' := (n2.step hF3 s3).step rfl s4
      have n3' := n3.step rfl s4
      have u1 := t4.putE i n1' fun ho => Apart.of t fun q e => f1 ho q e
      have u2 := u1.putE j n2' fun ho => Apart.set (Apart.of t1 fun q e => f2 ho q e) (fun ho1 => n1.apart ho1 n2 ho (f2 ho)) t3.len
      have u3 := u2.putE l n3' fun ho => Apart.set (Apart.set (Apart.of t2 fun q e => f3 ho q e) (fun ho1 => (n1.step hF2 s2).apart ho1 n3 ho (f3 ho)) t3.len) (fun ho1 => n2.apart ho1 n3 ho (f3 ho)) u1.len
      exact m.nx _ _ _ _ ⟨E1, E2, E3, p1, p2, p3, rfl⟩ u3 ((((s.trans2 hF s1).trans2 hF2 s2).trans2 hF3 s3).trans s4))) fun Γ' ⟨E1, E2, E3, p1, p2, p3, q⟩ => q ▸ hp E1 E2 E3 p1 p2 p3
variable {s z : Str} {kc : Nat} {q1 q2 : Pos}
theorem ev_notinS (ha : EV X M a Γ rStr s) (hb : EV X M b Γ rStr z) (h1 : s.cps.size = 1) (hm : behindInMarks .NotIn b = false := by rfl) : EV X M (.Compare a [.NotIn] [b] pos) Γ rBool (!inS s z) :=
  ev_op2 (pe_cmpR op_notIn_sign pe_of pe_of hm) ha hb fun _ _ e1 e2 => by
    subst e1; subst e2
    intro G H v w o r1 r2 Q k
    exact ⟨_, _, by rw [show v = V.str _ from r1, ← sign_eq h1], r2, k _ _ G H rfl (Step.refl o) rfl⟩
/-- all signs but the last -/
def initS (z : Str) : Str := ⟨z.cps.toList.dropLast.toArray⟩
theorem signs_init (z : Str) : signs (initS z) = (signs z).dropLast := by
  unfold signs initS
  rw [List.map_dropLast]
/-- z[:-1] -/
theorem ev_init (ha : EV X M a Γ rStr z) (hz : z.length ≤ sizeLine) : EV X M (.Subscript a (.Slice none (some (.UnaryOp .USub (.Constant (.int 1) kc q1) q2)) none p) pos) Γ rStr (initS z) := fun H0 G H σ t Q k =>
  of_pe (pe_slice sl_str pe_of po_none (po_some (pe_un un_neg pe_int))) (ha H0 G H σ t _ fun v x G1 H1 e1 s1 r1 => by
    subst e1
    refine ⟨1, rfl, -1, rfl, x, r1, hz, ?_⟩
    have e : cutS x none (some (-1)) = initS x := by
      show (⟨((x.cps.toList.drop 0).take (HT.sIx x.length x.length (some (-1)) - 0)).toArray⟩ : Str) = ⟨x.cps.toList.dropLast.toArray⟩
      have e2 : HT.sIx x.length x.length (some (-1)) = x.cps.toList.length - 1 := by
        show (if (-1 : Int) < 0 then ((-1 : Int) + (x.length : Int)).toNat else min (-1 : Int).toNat x.length) = _
        rw [if_pos (by decide), show x.length = x.cps.toList.length by show x.cps.size = _; simp]
        omega
      rw [e2, List.drop_zero, Nat.sub_zero, List.dropLast_eq_take]
    rw [e]
    exact k _ _ G1 H1 rfl s1 rfl)
theorem atI_last {l : List Nat} {c : Nat} (h : l.getLast? = some c) : atI l (-1) = some c := by
  cases l with
  | nil => cases h
  | cons x xs =>
    unfold atI ixN
    have hl : (0 : Int) < ((x :: xs).length : Int) := by rw [List.length_cons]; omega
    rw [if_neg (by decide), List.getLast?_eq_getElem?] at *
    rw [if_pos (by omega)]
    show (x :: xs)[((-1 : Int) + ((x :: xs).length : Int)).toNat]? = some c
    rw [show ((-1 : Int) + ((x :: xs).length : Int)).toNat = (x :: xs).length - 1 by omega]
    exact h
end
end RT

/-! RT24: ~a of one's own; own dicts locked, walked and read; sorted numbers; lists turned round. -/
namespace RT
open PySem L2 PyProof.Rows
section
variable {X : Cx} {M N T : Md} {G0 H0 G H : Hp} {Γ : List Ent} {σ : L2.St} {U : Mu} {α β : Type} {R : Rp α} {x : α} {i : Nat} {rest : List Stmt} {Po : Post}
theorem Stt.freezeM (t : Stt M H0 Γ σ G H) (hi : Γ[i]? = some (.own2 U)) (s : Step M G0 H0 G H) (hR : ∀ (G : Hp) (u : HO) (a : Addr), U.ok G u → G a = some u → R.rel G (V.ref a) x) : ∃ G', Stt M H0 (Γ.set i (.val R x)) σ G' H ∧ Step M G0 H0 G' H := by
  obtain ⟨a, u, h1, h2, h3, h4, h5, h6⟩ := t.ent i _ hi
  have hl : i < Γ.length := (List.getElem?_eq_some_iff.mp hi).1
  have g1 : Same G (upd G a u) := same_upd h3
  have g2 : Same (upd G a u) H := fun b w e => by
    by_cases hb : b = a
    · subst hb; rw [upd_same] at e; cases e; exact h2
    · rw [upd_ne hb] at e; exact t.ok.gh b w e
  have I' : M.I (upd G a u) H := M.up t.ok.i g1 g2 (fun _ _ => rfl) (fun _ _ z => z)
  refine ⟨upd G a u, ⟨⟨g2, t.ok.sz, I', fun b hb => ⟨(t.ok.f b hb).1, by rw [upd_ne (fun z => h4 (by rw [← z]; exact hb))]; exact (t.ok.f b hb).2⟩⟩, by simpa using t.len, fun j e h => ?_, fun j k b hjk o1 o2 => ?_⟩,
    ⟨s.g.trans g1, g2, s.sz, s.h, fun b hb e => ?_, I', s.f⟩⟩
  · by_cases hj : i = j
    · subst hj
      rw [List.getElem?_set_self hl] at h; cases h
      exact ⟨.ref a, h1, hR _ u a (U.mono g1 h6) upd_same⟩
    · rw [List.getElem?_set_ne hj] at h
      have q := t.ent j e h
      cases e with
      | any => trivial
      | val R' x' => obtain ⟨w, z1, z2⟩ := q; exact ⟨w, z1, R'.mono g1 z2⟩
      | own R' xs' =>
        obtain ⟨b, ws, z1, z2, z3, z4, z5, z6⟩ := q
        have nb : b ≠ a := fun z => t.dis i j a hj (by rw [hi]; trivial) (by rw [h]; trivial) h1 (by rw [← z]; exact z1)
        exact ⟨b, ws, z1, z2, by rw [upd_ne nb]; exact z3, z4, z5, R'.pmono g1 z6⟩
      | own2 U' =>
        obtain ⟨b, ws, z1, z2, z3, z4, z5, z6⟩ := q
        have nb : b ≠ a := fun z => t.dis i j a hj (by rw [hi]; trivial) (by rw [h]; trivial) h1 (by rw [← z]; exact z1)
        exact ⟨b, ws, z1, z2, by rw [upd_ne nb]; exact z3, z4, z5, U'.mono g1 z6⟩
      | adr b => exact q
      | obj b C fs =>
        obtain ⟨dx, ws, z1, z2, z3, z4, z5, z6, z7, z8, z9, z10, z11⟩ := q
        have nb : b ≠ a := fun z => t.dis i j a hj (by rw [hi]; trivial) (by rw [h]; trivial) h1 (by rw [← z]; exact z1)
        have nd : dx ≠ a := fun z => by rw [z, h2] at z3; cases z3; exact U.no h6
        exact ⟨dx, ws, z1, z2, z3, z4, by rw [upd_ne nb]; exact z5, by rw [upd_ne nd]; exact z6, z7, z8, z9, z10, z11.mono g1⟩
  · have w : ∀ m, IsOwn (Γ.set i (.val R x))[m]? → IsOwn Γ[m]? := fun m o => by
      rcases isOwn_set o with ⟨e, o⟩ | ⟨_, o⟩
      · exact o.elim
      · exact o
    exact t.dis j k b hjk (w j o1) (w k o2)
  · by_cases hb' : b = a
    · subst hb'; exact absurd h5 hb
    · rw [upd_ne hb']; exact s.nw b hb e
def muF {κ α : Type} (K : Kn κ) (R : Rp α) (ps : List (κ × α)) : Mu := ⟨fun G u => ∃ o kvs, u = .frz o (.dK kvs) ∧ Paired (KvOk K R G) kvs ps, fun e ⟨o, kvs, h1, h2⟩ => ⟨o, kvs, h1, KvOk.mono e h2⟩, (fun ⟨_, _, h, _⟩ => nomatch h), (fun ⟨_, _, h, _⟩ => nomatch h)⟩
theorem pss_lock {sts : List Stmt} {ts : TS} (h : PSs X sts ts) : PSs X sts (fun D σ H => ∃ d u, H d = some u ∧ Mut (some u) ∧ ∀ od, ts D σ (upd H d (.frz od u))) := ⟨fun pins s σ H D I ⟨d, u, hd, mu, q⟩ => by
  obtain ⟨od, I2⟩ := I.lock hd mu
  exact h.run pins s σ _ D I2 (q od)⟩
variable {κ : Type} (K : Kn κ) {ps : List (κ × α)}
/-- an own dict is changed no more -/
theorem ss_lockD (i : Nat) (hi : Γ[i]? = some (.own2 (muD K R ps))) (h : SSt X M T rest (Γ.set i (.val (rDicE K R) ps)) Po) : SSt X M T rest Γ Po := fun G0 H0 G H σ D t s m => by
  obtain ⟨a, u, h1, h2, h3, h4, h5, ⟨kvs, rfl, h6⟩⟩ := t.ent i _ hi
  refine of_pss (pss_lock pss_of) ⟨a, _, h2, trivial, fun od => ?_⟩
  have hl : i < Γ.length := (List.getElem?_eq_some_iff.mp hi).1
  have t1 : Stt M H0 (Γ.set i (.own2 (muF K R ps))) σ G (upd H a (.frz od (.dK kvs))) := t.chgM (U' := muF K R ps) hi h1 (by show SzU (.dK kvs); trivial) ⟨od, kvs, rfl, h6⟩
  have s1 : Step M G0 H0 G (upd H a (.frz od (.dK kvs))) := s.chgU t.ok h3 h4 h5 (by show SzU (.dK kvs); trivial)
  obtain ⟨G', t2, s2⟩ := t1.freezeM (R := rDicE K R) (x := ps) (List.getElem?_set_self hl) s1 (fun G2 u2 a2 ⟨o, kvs2, e, pr⟩ hg => ⟨a2, o, kvs2, rfl, by rw [hg, e], pr⟩)
  rw [List.set_set] at t2
  exact h G0 H0 G' _ σ D t2 s2 m
variable {a b e : Expr} {pos p : Pos} [BEq κ] [LawfulBEq κ] {k : κ}
theorem ev_dgetE (hu : X.A.units + 1 < cLine) (ha : EV X M a Γ (rDicE K R) ps) (hb : EV X M b Γ K.R k) (hx : ps.lookup k = some x) (hs : NoSl b := by exact fun _ _ => rfl) : EV X M (.Subscript a b pos) Γ R x := fun H0 G H σ t Q q =>
  of_pe (pe_dget hu pe_of pe_of hs) (ha H0 G H σ t _ fun v d G1 H1 e1 s1 r1 => hb H0 G1 H1 σ (t.step s1) _ fun w u G2 H2 e2 s2 r2 => by
    subst e1; subst e2
    obtain ⟨r, o, l, rfl, h2, h3⟩ := (rDicE K R).mono s2.g r1
    obtain ⟨v', h4, h5⟩ := (valV_kn h3).1 x hx
    exact ⟨r, v', rfl, .inl ⟨l, K.enc u, .inr ⟨o, s2.gh _ _ h2⟩, K.val r2, h4.symm⟩, q v' x G2 H2 rfl (s1.trans s2) h5⟩)
theorem ev_dinE (hu : X.A.units + 1 < cLine) (hb : EV X M b Γ K.R k) (ha : EV X M a Γ (rDicE K R) ps) (hm : behindInMarks .In a = false := by rfl) : EV X M (.Compare b [.In] [a] pos) Γ rBool (ps.lookup k).isSome := fun H0 G H σ t Q q =>
  of_pe (pe_cmp (pc_din hu pe_of pe_of) hm) (hb H0 G H σ t _ fun w u G1 H1 e1 s1 r1 => ha H0 G1 H1 σ (t.step s1) _ fun v d G2 H2 e2 s2 r2 => by
    subst e1; subst e2
    obtain ⟨r, o, l, rfl, h2, h3⟩ := r2
    exact ⟨r, _, rfl, .inl ⟨l, K.enc u, .inr ⟨o, s2.gh _ _ h2⟩, K.val r1, rfl⟩, q _ _ G2 H2 rfl (s1.trans s2) (by rw [lookup_isSome h3]; rfl)⟩)
theorem ev_dnotinE (hu : X.A.units + 1 < cLine) (hb : EV X M b Γ K.R k) (ha : EV X M a Γ (rDicE K R) ps) (hm : behindInMarks .NotIn a = false := by rfl) : EV X M (.Compare b [.NotIn] [a] pos) Γ rBool (!(ps.lookup k).isSome) := fun H0 G H σ t Q q =>
  of_pe (pe_cmp (pc_dnotin hu pe_of pe_of) hm) (hb H0 G H σ t _ fun w u G1 H1 e1 s1 r1 => ha H0 G1 H1 σ (t.step s1) _ fun v d G2 H2 e2 s2 r2 => by
    subst e1; subst e2
    obtain ⟨r, o, l, rfl, h2, h3⟩ := r2
    exact ⟨r, _, rfl, .inl ⟨l, K.enc u, .inr ⟨o, s2.gh _ _ h2⟩, K.val r1, rfl⟩, q _ _ G2 H2 rfl (s1.trans s2) (by rw [lookup_isSome h3]; rfl)⟩)
/-- a locked dict, key by key -/
theorem it_dicE {tg : Expr} (hz : ps.length ≤ 16777216) (h : EV X M e Γ (rDicE K R) ps) : ITv X M tg e Γ K.R (ps.map (·.1)) := ⟨_, pi_keys pe_of, fun H0 G H σ t Kk k =>
  h H0 G H σ t _ fun v xs G' H' px s r => by
    subst px
    obtain ⟨a, o, l, rfl, h2, h3⟩ := r
    have hl : l.length = xs.length := paired_len h3
    refine ⟨a, o, rfl, .inl ⟨l, s.gh _ _ h2, k _ (xs.map (·.1)) G' H' rfl (by rw [List.length_map, sizeLine_eq]; exact hz) s fun M' => ⟨fun H => H a = some (.frz o (.dK l)), _, fun G1 H1 g1 g2 => g2 _ _ (g1 _ _ h2), by rw [List.length_map, ← hl]; exact walk_keys, fun i H1 v H2 G1 g1 o' y => ?_⟩⟩⟩
    obtain ⟨rfl, k', v', hk, rfl⟩ := y
    obtain ⟨p, h4, h5⟩ := paired_at' h3 hk
    exact ⟨G1, p.1, by rw [List.getElem?_map, h4]; rfl, Step.refl o', by have e : k' = K.enc p.1 := h5.1; rw [e]; exact K.out⟩⟩
end
section
variable {X : Cx} {M N M1 : Md} {Γ : List Ent} {α β : Type} {R : Rp α} {S : Rp β} {a b e tg : Expr} {pos p p1 p2 p3 : Pos} {ns : List Int} {xs : List α} {n : Int} {k : Nat}
theorem ef_sortedI {Pl : List Int → Prop} (hm : X.mg "sorted" = none) (hb : EVt X M N b Γ (rLst rInt) Pl) (hz : ∀ l, Pl l → l.length < 64) (hg : Gl X "sorted" := by rfl) (hs : starEach [b] X.env = (false, eval b X.env) :: starEach [] X.env := by rfl) (hpl : (backTo pos (starEach [] X.env)).any (·.1) = false := by rfl) (hF : M.F = N.F := by first | rfl | assumption) :
    EFt X M N (.Call (.Name "sorted" p) [b] [] pos) Γ rInt (fun ys => ∃ l, Pl l ∧ ys.Perm l ∧ ys.Pairwise (· ≤ ·)) := ef_B cr_sorted hm (by decide +kernel) (ea_consP hb ea_nil hs hF rfl) (fun as ⟨l, r, pl, e2, e1⟩ => by
    subst e1 e2
    intro G H vs o ar Q k
    obtain ⟨v, rfl, a, us, rfl, h2, h3⟩ := args1 ar
    rw [paired_ints h3] at h2
    have hzl := hz l pl
    refine ⟨a, l, rfl, .inl (rd_up o.gh h2), hzl, fun ys q pm pw hq => ?_⟩
    have hl : (ys.map V.int).length ≤ sizeLine := by rw [List.length_map, pm.length_eq, sizeLine_eq]; omega
    exact k q _ ys G _ ⟨l, pl, pm, pw⟩ (Step.own o hq hl) hq (o.gnone hq) upd_same (ints_paired ys)) hg (by decide) (by decide) hs hpl hF
theorem paired_reverse {F : V → α → Prop} : ∀ {l : List V} {m : List α}, Paired F l m → Paired F l.reverse m.reverse
  | _, _, .nil => .nil
  | _, _, .cons h t => by
    rw [List.reverse_cons, List.reverse_cons]
    exact Paired.snoc (paired_reverse t) h
/-- xs[::-1] -/
theorem ef_revL {Pl : List α → Prop} (ha : EVt X M N a Γ (rLst R) Pl) (hF : M.F = N.F := by first | rfl | assumption) : EFt X M N (.Subscript a (.Slice none none (some (.UnaryOp .USub (.Constant (.int 1) k p1) p2)) p3) pos) Γ R (fun ys => ∃ xs, Pl xs ∧ ys = xs.reverse) := fun H0 G H σ t Q q =>
  of_pe (pe_revL pe_of) (ha H0 G H σ t _ fun v xs G1 H1 px s1 r1 => by
    obtain ⟨c, vs, rfl, h2, h3⟩ := r1
    refine ⟨c, vs, rfl, .inl (rd_up s1.gh h2), fun p hp => ?_⟩
    have o1 := s1.okk2 hF t.ok
    have hz : vs.length ≤ sizeLine := o1.sz c vs (.inl (rd_up s1.gh h2))
    have hz' : vs.reverse.length ≤ sizeLine := by rw [List.length_reverse]; exact hz
    exact q p _ xs.reverse G1 _ ⟨xs, px, rfl⟩ (s1.trans (Step.own o1 hp hz')) (s1.fresh hp) (o1.gnone hp) upd_same (paired_reverse h3))
theorem in_strs (n : Int) : ∀ zs : List Str, inV (.int n) (zs.map V.str) = false
  | [] => rfl
  | z :: zs => by
    unfold inV
    rw [List.map_cons, List.any_cons]
    show (false || inV (.int n) (zs.map V.str)) = false
    rw [in_strs n zs]; rfl
theorem flat_strs (l : List Str) : (l.map V.str).all flatV = true := by
  rw [List.all_map, List.all_eq_true]; intro _ _; rfl
/-- a number in a tuple of texts -/
theorem ev_inTS {zs : List Str} (ha : EV X M a Γ rInt n) (hb : EV X M b Γ (rTup rStr) zs) (hm : behindInMarks .In b = false := by rfl) : EV X M (.Compare a [.In] [b] pos) Γ rBool false := ev_op2 (pe_cmpR op_in_seq pe_of pe_of hm) ha hb (fun i l h1 h2 G H v w o r1 r2 Q k => by
  subst h1 h2
  obtain ⟨q, vs, rfl, h3, h4⟩ := id r2
  rw [paired_strs h4] at h3
  exact ⟨q, _, rfl, .inr (.inl (rd_up o.gh h3)), by rw [show v = V.int i from r1]; rfl, flat_strs _, k _ _ G H rfl (Step.refl o) (by rw [show v = V.int i from r1, in_strs]; rfl)⟩)
theorem atI_lastA {γ : Type} {l : List γ} {c : γ} (h : l.getLast? = some c) : atI l (-1) = some c := by
  cases l with
  | nil => cases h
  | cons x xs =>
    unfold atI ixN
    have hl : (0 : Int) < ((x :: xs).length : Int) := by rw [List.length_cons]; omega
    rw [if_neg (by decide), List.getLast?_eq_getElem?] at *
    rw [if_pos (by omega)]
    show (x :: xs)[((-1 : Int) + ((x :: xs).length : Int)).toNat]? = some c
    rw [show ((-1 : Int) + ((x :: xs).length : Int)).toNat = (x :: xs).length - 1 by omega]
    exact h
/-- ~a -/
theorem un_invOwn {C f : Addr} {fd : FuncData} {ps : List Str} {sp : Sp} {j : Nat} (m : Meth X.K C "__invert__" f) (F : FnOk X.prog X.w X.K X.mg X.base CX0 j f fd ps sp) (hb : Binds X.K fd ps []) (hr : Room j X.A) : UnR X (unaryOp .Invert) (fun x H Q => ∃ a dx fs, x = .ref a ∧ H a = some (.ins C dx fs) ∧ sp [x] H Q E0) := by
  intro pins s σ H x v Q I rx ⟨a, dx, fs, e1, ha, hsp⟩
  subst e1
  cases rx
  obtain ⟨mA, J, _⟩ := ins_get I.hok ha
  obtain ⟨od, J, _⟩ := J.look
  obtain ⟨m0, hF⟩ := I.fr
  exact PySem.W.ksp_inv hF I.ok.mod.kin J m.at_ m.fn (run_at F hr rfl hb I (vs := [V.ref a]) (us := [Value.ref a]) (.cons rfl .nil) hsp)
variable {C : Addr} {φ : α → List (Str × Fe)} {x : α} {y : β} {fd : FuncData} {ps : List Str} {Ct : Ctr} {j : Nat}
theorem ev_invOwn (ha : EV X M a Γ (rObj C φ) x) (D : Mth X C "__invert__" j fd ps Ct) (hr : Room j X.A) (hc : Ct M [.val (rObj C φ) x] (fun q => q = .val S y)) : EV X M (.UnaryOp .Invert a pos) Γ S y := by
  obtain ⟨g, m, F⟩ := D.ex
  refine ev_op1 (pe_un (un_invOwn m F D.bd hr) pe_of) ha (fun x' h1 G H v o r1 Q q => ?_)
  subst h1
  obtain ⟨p1, d1, f1, e1, g1, _⟩ := id r1
  refine ⟨p1, d1, f1, e1, o.gh _ _ g1, ?_⟩
  have z := spC_use (P := fun q => q = y) (R := S) (Q := Q) (E := E0) hc o (argsOk_cons (e := .val (rObj C φ) x') r1 argsOk_nil) (fun u' hu => ⟨y, rfl, hu⟩) fun v' z' G2 H2 ez s2 r2 => q v' z' G2 H2 ez s2 r2
  rwa [List.append_nil] at z
end
end RT

/-! RT25: how many keys a locked dict has. -/
namespace RT
open PySem L2
section
variable {X : Cx} {M : Md} {Γ : List Ent} {e : Expr} {κ α : Type} {K : Kn κ} {R : Rp α} {ps : List (κ × α)} {pos p : Pos}
theorem call_lenRd : CallR X (.builtin "len") (fun xs H Q => ∃ a kvs, xs = [V.ref a] ∧ Rd H a (.dK kvs) ∧ Q (.int (kvs.length : Int)) H) := by
  intro pins s σ H xs us Q I r h
  obtain ⟨a, kvs, rfl, ha, q⟩ := h
  obtain ⟨u, rfl, ru⟩ := vals1 r
  cases ru
  exact d_len I ha fun t s' I' => ⟨.int kvs.length, H, I', ⟨t, rfl⟩, q⟩
theorem ev_lenD (hm : X.mg "len" = none) (ha : EV X M e Γ (rDicE K R) ps) (hg : Gl X "len" := by rfl) (hs : starEach [e] X.env = (false, eval e X.env) :: starEach [] X.env := by rfl) (hpl : (backTo pos (starEach [] X.env)).any (·.1) = false := by rfl) : EV X M (.Call (.Name "len" p) [e] [] pos) Γ rInt (ps.length : Int) :=
  ev_B call_lenRd hm (by decide +kernel) (ea_cons ha ea_nil hs) (fun _ h => by
    subst h
    intro G H vs o ar Q k
    obtain ⟨v, rfl, a, ob, kvs, rfl, h2, h3⟩ := args1 ar
    have hl : kvs.length = ps.length := paired_len h3
    exact ⟨a, kvs, rfl, .inr ⟨ob, o.gh _ _ h2⟩, k _ (ps.length : Int) G H rfl (Step.refl o) (by rw [hl]; rfl)⟩) hg (by decide) (by decide) hs hpl
end
section
variable {X : Cx} {M : Md} {Γ : List Ent} {o : Expr} {α β : Type} {S : Rp β} {x : α} {y : β} {pos apos : Pos} {m : Str} {C : Addr} {φ : α → List (Str × Fe)} {k : Nat} {fd : FuncData} {ps : List Str} {Ct : Ctr}
theorem ev_meth0 {pl : Sem Bool} (ha : EV X M o Γ (rObj C φ) x) (c : Cls X.K C) (D : Mth X C m k fd ps Ct) (hr : Room k X.A) (hn : (φ x).lookup m = none) (hc : Ct M [.val (rObj C φ) x] (fun u => u = .val S y))
    (ht : eval (.Call (.Attribute o m apos) [] [] pos) X.env = (do
      let ov ← eval o X.env
      standAt apos.atName
      let (f, first) ← holding [ov] (getMethod ov m pl)
      callWith pos f first (backTo pos (starEach [] X.env)) (backToKw pos (keywordEach [] X.env))) := by rfl) : EV X M (.Call (.Attribute o m apos) [] [] pos) Γ S y := fun H0 G H σ t Q k' => by
  obtain ⟨g, hm, F⟩ := D.ex
  refine of_pe (pe_meth0 (pl := pl) pe_of c hm F hr D.bd .nil pass0 ht) (ha H0 G H σ t _ fun v x' G' H' ex s r => ?_)
  subst ex
  obtain ⟨a, dx, vs, rfl, h2, h3⟩ := id r
  refine ⟨a, dx, vs, rfl, s.gh _ _ h2, fs_none h3 hn, ?_⟩
  exact spC_use (E := E0) (vs := [.ref a]) (P := fun q => q = y) hc (s.okk t.ok) (argsOk1 r) (fun u hu => ⟨y, rfl, hu⟩) fun v z G1 H1 e1 s1 r1 => k' v z G1 H1 e1 (s.trans s1) r1
end
end RT

/-! RT26: dicts with keys ints and texts made, copied, popped, sorted, compared, shown; values of many kinds. -/
namespace RT
open PySem L2
section
variable {X : Cx} {M N : Md} {Γ : List Ent} {e : Expr} {α β : Type} {R : Rp α} {S : Rp β} {x : α} {y : β} {P : α → Prop} {P2 : β → Prop}
/-- what is told is told in another way -/
theorem ev_conv (h : EV X M e Γ R x) (c : ∀ G v, R.rel G v x → S.rel G v y) : EV X M e Γ S y := fun H0 G H σ t Q k => h H0 G H σ t Q fun v x' G' H' ex s r => k v y G' H' rfl s (c G' v (by subst ex; exact r))
theorem evt_conv (h : EVt X M N e Γ R P) (c : ∀ x, P x → ∃ y, P2 y ∧ ∀ G v, R.rel G v x → S.rel G v y) : EVt X M N e Γ S P2 := fun H0 G H σ t Q k => h H0 G H σ t Q fun v x' G' H' ex s r => by
  obtain ⟨y, h1, h2⟩ := c x' ex
  exact k v y G' H' h1 s (h2 G' v r)
end
/-! ### keys and values of many kinds -/
def rKey : Rp Key := ⟨fun _ v k => v = kV k, fun _ h => h⟩
def knK : Kn Key := ⟨id, fun h => h, rKey, fun h => h, rfl⟩
inductive Vl where
  | int (i : Int) | non | str (s : Str) | tup (ns : List Int)
def rVl : Rp Vl := ⟨fun G v x => match x with | .int i => v = .int i | .non => v = .non | .str s => v = .str s | .tup ns => (rTup rInt).rel G v ns, fun {_ _ _ x} e h => match x, h with | .int _, h => h | .non, h => h | .str _, h => h | .tup _, h => (rTup rInt).mono e h⟩
inductive Th where
  | non | int (i : Int) | tup (ns : List Int) | lst (ns : List Int) | dic (ps : List (Key × Vl))
def rTh : Rp Th := ⟨fun G v x => match x with | .non => v = .non | .int i => v = .int i | .tup ns => (rTup rInt).rel G v ns | .lst ns => (rLst rInt).rel G v ns | .dic ps => (rDicE knK rVl).rel G v ps, fun {_ _ _ x} e h => match x, h with | .non, h => h | .int _, h => h | .tup _, h => (rTup rInt).mono e h | .lst _, h => (rLst rInt).mono e h | .dic _, h => (rDicE knK rVl).mono e h⟩
theorem dicE_th {ps : List (Int × Int)} {G : Hp} {v : V} (h : (rDicE knI rInt).rel G v ps) : (rDicE knK rVl).rel G v (ps.map fun p => (Sum.inl p.1, Vl.int p.2)) := by
  obtain ⟨a, o, kvs, h1, h2, h3⟩ := h
  refine ⟨a, o, kvs, h1, h2, ?_⟩
  clear h2
  induction h3 with
  | nil => exact .nil
  | cons h t ih => exact .cons ⟨h.1, h.2⟩ ih
theorem kn_ints {K : Kn Int} : True := trivial
section
variable {X : Cx} {M N M1 T : Md} {Γ : List Ent} {a b c e kx vx tg iter : Expr} {ifs : List Expr} {α β κ : Type} {R : Rp α} {S : Rp β} {xs : List α} {x : α} {y : β} {pos p apos cpos : Pos} {f : α → List Ent → List Ent} {sl : List Nat} {K : Kn κ} {ps : List (κ × α)} {k : κ} {i : Nat} {nm : Str} {rest : List Stmt} {Po : Post}
theorem keys_kn {G : Hp} : ∀ {l : List (Key × V)} {ps : List (κ × α)}, Paired (KvOk K R G) l ps → l.map (·.1) = ps.map fun p => K.enc p.1
  | _, _, .nil => rfl
  | _, _, .cons h t => by rw [List.map_cons, List.map_cons, h.1, keys_kn t]
/-- {k: v for ..} -/
theorem ev_dcE {scope : Scope} {own : List (Str × Nat)} {pb : α → Bool} {kf : α → κ} {vf : α → β} (hc : X.calm = true) (hN : X.N.Nodup) (it : ITv X M tg iter Γ R xs) (ok : BlkOk X.N X.env.scope scope own) (hsl : ∀ j ∈ sl, j ∈ own.map (·.2)) (hnd : ((xs.filter pb).map kf).Nodup)
    (tgv : ∀ (s : Shared) (H : Hp) (C : Addr) (cl : List (Str × Addr)) (fp : List Addr) (M : Md), TGv (X.blk s H scope (compEnvC scope cl C X.env) fp) M tg R f sl)
    (ht : ∀ (s : Shared) (H : Hp) (C : Addr) (cl : List (Str × Addr)) (fp : List Addr) x, x ∈ xs → TSv (X.blk s H scope (compEnvC scope cl C X.env) fp) M ifs (f x (wipeE Γ (own.map (·.2)))) (pb x))
    (hk : ∀ (s : Shared) (H : Hp) (C : Addr) (cl : List (Str × Addr)) (fp : List Addr) x, x ∈ xs → pb x = true → EV (X.blk s H scope (compEnvC scope cl C X.env) fp) M kx (f x (wipeE Γ (own.map (·.2)))) K.R (kf x))
    (he : ∀ (s : Shared) (H : Hp) (C : Addr) (cl : List (Str × Addr)) (fp : List Addr) x, x ∈ xs → pb x = true → EV (X.blk s H scope (compEnvC scope cl C X.env) fp) M vx (f x (wipeE Γ (own.map (·.2)))) S (vf x))
    (hs : ∀ x, foldedSetIterable iter X.env x = pure x := by intro _; rfl) : EV X M (.DictComp kx vx [⟨tg, iter, ifs, 0⟩] scope pos) Γ (rDicE K S) ((xs.filter pb).map fun x => (kf x, vf x)) := fun H0 G H σ t Q k => by
  obtain ⟨wi, hi, hw⟩ := it
  refine of_pe (pe_lk (pe_dc (g := gBlk X scope tg) (tt := ttBlk X scope ifs) (tk := teBlk X scope kx) (tv := teBlk X scope vx) hc hN hi ok
    (fun s H1 C cl fp => ⟨fun pins s' σ' H' v u Q' I r h => (h s H1 C cl fp).run pins s' u I r⟩) (fun s H1 C cl fp => ⟨fun pins s' σ' H' Q' I h => (h s H1 C cl fp).run pins s' I⟩) (fun s H1 C cl fp => ⟨fun pins s' σ' H' Q' I h => (h s H1 C cl fp).run pins s' I⟩) (fun s H1 C cl fp => ⟨fun pins s' σ' H' Q' I h => (h s H1 C cl fp).run pins s' I⟩) hs))
    (hw H0 G H σ t _ fun J xs' G1 H1 px hz s1 tw D hD => ?_)
  subst px
  obtain ⟨Gd, Y, g1, wk, g2⟩ := tw M
  have o1 := s1.okk t.ok
  have t1 := t.step s1
  have dF := o1.nf hD
  have new := Step.own (u := .dK []) o1 hD trivial
  let Pv : Nat → Hp → Prop := fun i H2 => ∃ G2 kvs, Step M G1 H1 G2 H2 ∧ H2 D = some (.dK kvs) ∧ G2 D = none ∧ Paired (KvOk K S G2) kvs (((xs'.take i).filter pb).map fun x => (kf x, vf x))
  have pv0 : Pv 0 (upd H1 D (.dK [])) := ⟨G1, [], new, upd_same, o1.gnone hD, .nil⟩
  have fin : ∀ H2, Pv xs'.length H2 → ∃ d u, V.ref D = .ref d ∧ H2 d = some u ∧ Mut (some u) ∧ ∀ od, Q (.ref D) (upd H2 d (.frz od u)) := fun H2 ⟨G2, kvs, s2, h2, gD, py⟩ => by
    rw [List.take_length] at py
    have S2 := s1.trans s2
    refine ⟨D, _, rfl, h2, trivial, fun od => ?_⟩
    have S2' := S2.chgU (u := .frz od (.dK kvs)) ((s2.okk o1)) gD dF (s1.fresh hD) trivial
    obtain ⟨S3, g3⟩ := S2'.frz gD (s1.fresh hD) upd_same
    exact k (.ref D) _ _ _ rfl S3 ⟨D, od, kvs, rfl, upd_same, paired_imp (fun _ _ q => ⟨q.1, S.mono g3 q.2⟩) py⟩
  have step : ∀ i v H2 H3, i < xs'.length → Pv i H2 → Y i H2 v H3 → gBlk X scope tg v (L2.wipe σ (own.map (·.2))) H3 fun σ2 H2 => L2.wipe σ2 (own.map (·.2)) = L2.wipe σ (own.map (·.2)) ∧ ttBlk X scope ifs σ2 H2 fun b H3 =>
      if b = true then teBlk X scope kx σ2 H3 fun y H4 => teBlk X scope vx σ2 H4 fun z H5 => ∃ kvs k, y = kV k ∧ H5 D = some (.dK kvs) ∧ kvs.length < sizeLine ∧ Pv (i + 1) (upd H5 D (.dK (putK kvs k z))) else Pv (i + 1) H3 := fun i v H2 H3 hi hPv hy => by
    obtain ⟨G2, kvs, s2, h2, gD, py⟩ := hPv
    obtain ⟨G3, x, hx, s3, r3⟩ := g2 i H2 v H3 G2 s2.g (s2.okk o1) hy
    have S3 := s2.trans s3
    have hxm : x ∈ xs' := List.mem_of_getElem? hx
    have nD : H2 D ≠ none := by rw [h2]; exact fun z => nomatch z
    intro s0 H00 C cl fp
    refine tgv s0 H00 C cl fp M H0 G3 H3 (L2.wipe σ (own.map (·.2))) (wipeE Γ (own.map (·.2))) v x ((t1.step S3).wipe _) r3 _ ?_
    intro σ4 t4 hl4 ha4
    refine And.intro ?_ ?_
    · rw [wipe_eq (τ := L2.wipe σ (own.map (·.2))) hl4 fun j hj => ha4 j fun z => hj (hsl j z)]
      exact wipe_eq (wipe_length _ _) fun j hj => wipe_at hj
    · intro s0 H00 C cl fp
      refine ht s0 H00 C cl fp x hxm H0 G3 H3 σ4 t4 _ fun G5 H5 s5 => ?_
      have fl : (xs'.take (i + 1)).filter pb = (xs'.take i).filter pb ++ (if pb x = true then [x] else []) := by
        rw [List.take_add_one, hx, List.filter_append]
        cases hb : pb x <;> simp [hb]
      cases hb : pb x with
      | false =>
        rw [if_neg Bool.false_ne_true]
        rw [hb, if_neg Bool.false_ne_true, List.append_nil] at fl
        exact ⟨G5, kvs, S3.trans s5, (s3.trans s5).h D _ dF h2, (s3.trans s5).nw D nD gD, by rw [fl]; exact KvOk.mono (s3.trans s5).g py⟩
      | true =>
        rw [if_pos rfl]
        rw [hb, if_pos rfl] at fl
        intro s0 H00 C cl fp
        refine hk s0 H00 C cl fp x hxm hb H0 G5 H5 σ4 (t4.step s5) _ fun w y G6 H6 ey s6 r6 => ?_
        intro s0 H00 C cl fp
        refine he s0 H00 C cl fp x hxm hb H0 G6 H6 σ4 ((t4.step s5).step s6) _ fun w2 y2 G7 H7 ey2 s7 r7 => ?_
        subst ey; subst ey2
        have sA := ((s3.trans s5).trans s6).trans s7
        have S7 := s2.trans sA
        have g7 : G7 D = none := sA.nw D nD gD
        have hkl : kvs.length = ((xs'.take i).filter pb).length := by have := paired_len py; simpa using this
        have hlen : kvs.length < sizeLine := by
          have h1 := List.length_filter_le pb (xs'.take i)
          rw [List.length_take] at h1
          omega
        have keys : kvs.map (·.1) = ((xs'.take i).filter pb).map fun x => K.enc (kf x) := by
          rw [keys_kn py, List.map_map]; rfl
        have fresh : valV kvs (K.enc (kf x)) = none := by
          cases e : valV kvs (K.enc (kf x)) with
          | none => rfl
          | some u =>
            have hm := valV_in e
            rw [keys] at hm
            obtain ⟨x', hx', ek⟩ := List.mem_map.mp hm
            have ek := K.inj ek
            have tk : (xs'.take (i + 1)).filter pb ++ ((xs'.drop (i + 1)).filter pb) = xs'.filter pb := by rw [← List.filter_append, List.take_append_drop]
            have nd2 : (((xs'.take (i + 1)).filter pb).map kf).Nodup := by
              have := hnd
              rw [← tk, List.map_append] at this
              exact (List.nodup_append.mp this).1
            rw [fl, List.map_append] at nd2
            have := (List.nodup_append.mp nd2).2.2 (kf x') (List.mem_map.mpr ⟨x', hx', rfl⟩) (kf x) (by simp)
            exact absurd ek this
        refine ⟨kvs, K.enc (kf x), K.val r6, sA.h D _ dF h2, hlen, G7, putK kvs (K.enc (kf x)) w2, S7.chgU (S7.okk o1) g7 dF hD trivial (notExtK (sA.h D _ dF h2)), upd_same, g7, ?_⟩
        rw [putK_new w2 fresh, fl, List.map_append]
        exact Paired.snoc (KvOk.mono sA.g py) ⟨rfl, r7⟩
  refine ⟨fun i m H => m = xs'.length - i ∧ i ≤ xs'.length ∧ Pv i H, ⟨xs'.length, by simp, Nat.zero_le _, pv0⟩, ?_⟩
  rintro i m H2 ⟨rfl, hi', p⟩
  have q : Gd H2 := by obtain ⟨G2, _, s2, _⟩ := p; exact g1 G2 H2 s2.g s2.gh
  by_cases hlt : i < xs'.length
  · exact .inr ⟨wk.goes i H2 hlt q, Pv (i + 1), fun H' p' => ⟨xs'.length - (i + 1), by omega, rfl, hlt, p'⟩, fun x H' y => step i x H2 H' hlt p (wk.yields i H2 x H' hlt q y)⟩
  · have e : i = xs'.length := by omega
    subst e
    exact .inl ⟨wk.stops H2 q, fin H2 p⟩
/-- dict(pairs), no key twice -/
theorem ev_dictE {Pl : List (κ × α) → Prop} (hm : X.mg "dict" = none) (hcalm : X.calm = true) (ha : EVt X M N e Γ (rLst (rPair K.R R)) Pl) (hn : ∀ l, Pl l → (l.map (·.1)).Nodup) (hg : Gl X "dict" := by rfl) (hs : starEach [e] X.env = (false, eval e X.env) :: starEach [] X.env := by rfl) (hpl : (backTo pos (starEach [] X.env)).any (·.1) = false := by rfl) (hF : M.F = N.F := by first | rfl | assumption) : EVt X M N (.Call (.Name "dict" p) [e] [] pos) Γ (rDicE K R) Pl :=
  ev_Ty (cr_lock (call_dictP hcalm)) hm (by decide +kernel) (ea_consP ha ea_nil hs hF rfl) (fun _ h => by
    obtain ⟨l, r, h1, h2, h3⟩ := h
    subst h2 h3
    intro G H vs o ar Q k
    obtain ⟨v, rfl, q, us, rfl, h2, h3⟩ := args1 ar
    have split : ∀ {us : List V} {l : List (κ × α)}, Paired ((rPair K.R R).rel G) us l → ∃ (ps : List Addr) (kvs : List (Key × V)), us = ps.map V.ref ∧ Paired (fun q kv => SqT X.K H q [kV kv.1, kv.2]) ps kvs ∧ Paired (KvOk K R G) kvs l := by
      intro us l h
      induction h with
      | nil => exact ⟨[], [], rfl, .nil, .nil⟩
      | cons h t ih =>
        obtain ⟨ps, kvs, e1, e2, e3⟩ := ih
        obtain ⟨b, v1, v2, rfl, r1, r2, r3⟩ := h
        rename_i pr _ _
        refine ⟨b :: ps, (K.enc pr.1, v2) :: kvs, by rw [e1]; rfl, .cons ?_ e2, .cons ⟨rfl, r3⟩ e3⟩
        rw [K.val r2] at r1
        exact .inl (rd_up o.gh r1)
    obtain ⟨ps, kvs, e1, e2, e3⟩ := split h3
    subst e1
    refine ⟨q, ps, kvs, rfl, .inl (rd_up o.gh h2), e2, fun d hd => ?_⟩
    have nd : (kvs.map (·.1)).Nodup := by
      rw [keys_kn e3]
      have := hn l h1
      rw [show (l.map fun p => K.enc p.1) = (l.map (·.1)).map K.enc by simp]
      unfold List.Nodup at this ⊢
      rw [List.pairwise_map]
      exact this.imp fun h q => h (K.inj q)
    rw [mergeK_new nd fun _ _ => rfl, List.nil_append]
    exact ⟨d, .dK kvs, rfl, upd_same, trivial, fun od => by
      rw [upd_upd]
      exact k _ l _ _ h1 (Step.new (u := .frz od (.dK kvs)) o hd trivial) ⟨d, od, kvs, rfl, upd_same, KvOk.mono (same_upd (o.gnone hd)) e3⟩⟩) hg (by decide) (by decide) hs hpl
/-- {} locked -/
theorem ev_d0 (K : Kn κ) (R : Rp α) : EV X M (.Dict [] [] pos) Γ (rDicE K R) [] := fun H0 G H σ t Q k =>
  of_pe (pe_lk pe_dnewK) (fun d hd => ⟨d, .dK [], rfl, upd_same, trivial, fun od => by
    rw [upd_upd]
    exact k _ [] _ _ rfl (Step.new (u := .frz od (.dK [])) t.ok hd trivial) ⟨d, od, [], rfl, upd_same, .nil⟩⟩)
/-- {k: x} locked -/
theorem ev_d1 (ha : EV X M a Γ K.R k) (hb : EV X M b Γ R x) : EV X M (.Dict [some a] [b] pos) Γ (rDicE K R) [(k, x)] := fun H0 G H σ t Q q =>
  of_pe (pe_lk (pe_disp (pps_cons pe_of pe_of pps_nil) rfl rfl (by simp) (by simp))) (fun d hd => by
    have s0 := Step.own (u := .dK []) t.ok hd trivial
    refine ha H0 G _ σ (t.step s0) _ fun v k' G1 H1 e1 s1 r1 => hb H0 G1 H1 σ ((t.step s0).step s1) _ fun w x' G2 H2 e2 s2 r2 => ?_
    subst e1; subst e2
    have dF := t.ok.nf hd
    have S12 := s1.trans s2
    have h2 : H2 d = some (.dK []) := S12.h d _ dF upd_same
    have g2 : G2 d = none := S12.nw d (by rw [upd_same]; exact fun z => nomatch z) (t.ok.gnone hd)
    refine ⟨h2, [(K.enc k', w)], by rw [K.val r1]; rfl, by simp, d, .dK (mergeK [] [(K.enc k', w)]), rfl, upd_same, trivial, fun od => ?_⟩
    rw [upd_upd]
    have S := s0.trans S12
    have S' := S.chgU (u := .frz od (.dK (mergeK [] [(K.enc k', w)]))) (S12.okk (s0.okk t.ok)) g2 dF hd trivial
    obtain ⟨S3, g3⟩ := S'.frz g2 hd upd_same
    exact q _ [(k', x')] _ _ rfl S3 ⟨d, od, _, rfl, upd_same, .cons ⟨rfl, R.mono g3 r2⟩ .nil⟩)
/-- dict(d): an own copy -/
theorem EEt.copy (hm : X.mg "dict" = none) (ha : EV X M e Γ (rDicE K R) ps) (hg : Gl X "dict" := by rfl) (hs : starEach [e] X.env = (false, eval e X.env) :: starEach [] X.env := by rfl) (hpl : (backTo pos (starEach [] X.env)).any (·.1) = false := by rfl) :
    EEt X M M (.Call (.Name "dict" p) [e] [] pos) Γ (fun E => E = .own2 (muD K R ps)) := fun H0 G H σ t h0 Q k =>
  of_pe (pe_callTy call_dictD hg hm (by decide +kernel) pa_of (by decide) (by decide) hs hpl) (ea_cons ha ea_nil hs H0 G H σ t _ fun vs as G1 H1 h s1 ar => by
    subst h
    obtain ⟨v, rfl, a, o, kvs, rfl, h2, h3⟩ := args1 ar
    have o1 := s1.okk t.ok
    refine ⟨a, kvs, rfl, .inr ⟨o, s1.gh _ _ h2⟩, fun q hq => ?_⟩
    have st := Step.own (u := .dK kvs) o1 hq trivial
    exact k _ _ G1 _ rfl (s1.trans st) ⟨q, _, rfl, upd_same, o1.gnone hq, o1.nf hq, h0 q (s1.fresh hq), ⟨kvs, rfl, h3⟩⟩ (fun _ b eb => by cases eb; exact s1.fresh hq))
/-- sorted(d), keys ints -/
theorem ef_sortedDI {ks : List Int} (hm : X.mg "sorted" = none) (hcalm : X.calm = true) (hb : EV X M b Γ (rDicE K R) ps) (hk : (ps.map fun p => K.enc p.1) = ks.map Sum.inl) (hz : ps.length < 64) (hg : Gl X "sorted" := by rfl) (hs : starEach [b] X.env = (false, eval b X.env) :: starEach [] X.env := by rfl) (hpl : (backTo pos (starEach [] X.env)).any (·.1) = false := by rfl) :
    EFp X M (.Call (.Name "sorted" p) [b] [] pos) Γ rInt (fun ys => ys.Perm ks ∧ ys.Pairwise (· ≤ ·)) :=
  ef_B (call_sortedDI hcalm) hm (by decide +kernel) (ea_cons hb ea_nil hs) (fun _ h => by
    subst h
    intro G H vs o ar Q k
    obtain ⟨v, rfl, q, ob, l, rfl, h3, h4⟩ := args1 ar
    have hl : ks.length < 64 := by have := congrArg List.length hk; rw [List.length_map, List.length_map] at this; omega
    refine ⟨q, l, ks, rfl, .inr ⟨ob, o.gh _ _ h3⟩, by rw [keys_kn h4, hk], hl, fun ys p hp hs hn => ?_⟩
    have hl : ys.length < 64 := by rw [hp.length_eq]; exact hl
    exact k p _ ys G _ ⟨hp, hs⟩ (Step.own o hn (by show (ys.map V.int).length ≤ sizeLine; rw [sizeLine_eq]; simp; omega)) hn (o.gnone hn) upd_same (ints_paired ys)) hg (by decide) (by decide) hs hpl
/-- list(d) -/
theorem ef_listD (hm : X.mg "list" = none) (hcalm : X.calm = true) (hb : EV X M b Γ (rDicE K R) ps) (hz : ps.length < 16777216) (hg : Gl X "list" := by rfl) (hs : starEach [b] X.env = (false, eval b X.env) :: starEach [] X.env := by rfl) (hpl : (backTo pos (starEach [] X.env)).any (·.1) = false := by rfl) :
    EF X M (.Call (.Name "list" p) [b] [] pos) Γ K.R (ps.map (·.1)) :=
  ef_Ty (call_listD hcalm) hm (by decide +kernel) (ea_cons hb ea_nil hs) (fun _ h => by
    subst h
    intro G H vs o ar Q k
    obtain ⟨v, rfl, q, ob, l, rfl, h3, h4⟩ := args1 ar
    have hl : l.length = ps.length := paired_len h4
    refine ⟨q, l, rfl, .inr ⟨ob, o.gh _ _ h3⟩, fun p hn => ?_⟩
    have hp : Paired (K.R.rel G) (l.map fun kv => kV kv.1) (ps.map (·.1)) := by
      have q : ∀ {l : List (Key × V)} {ps : List (κ × α)}, Paired (KvOk K R G) l ps → Paired (K.R.rel G) (l.map fun kv => kV kv.1) (ps.map (·.1)) := by
        intro l ps h
        induction h with
        | nil => exact .nil
        | cons h t ih => exact .cons (by show K.R.rel G (kV _) _; rw [h.1]; exact K.out) ih
      exact q h4
    exact k p _ _ G _ rfl (Step.own o hn (by show (l.map _).length ≤ sizeLine; rw [sizeLine_eq]; simp; omega)) hn (o.gnone hn) upd_same hp) hg (by decide) (by decide) hs hpl
end
end RT

/-! RT27: dicts compared and shown, popped. -/
namespace RT
open PySem L2 PyProof.Rows
/-! ### == of locked dicts of numbers that are equal -/
def rEqDR : R2 := fun x y H Q => ∃ a b ks ls, x = .ref a ∧ y = .ref b ∧ Rd H a (.dK ks) ∧ Rd H b (.dK ls) ∧ ks.length = ls.length ∧ (∀ p ∈ ks, valV ls p.1 = some p.2 ∧ flatB p.2 = true) ∧ Q (.bl true) H
section
variable {X : Cx}
theorem op_eqDR (hu : X.A.units < cLine) : OpR X (compareOp .Eq) rEqDR := by
  intro pins s σ H x y v u Q I rx ry h
  obtain ⟨a, b, ks, ls, rfl, rfl, ea, eb, hlen, hp, q⟩ := h
  obtain rfl : v = Value.ref a := rx
  obtain rfl : u = Value.ref b := ry
  obtain ⟨_, ya, va, ra, da⟩ := dk_rd I.hok ea
  obtain ⟨_, yb, vb, rb, db⟩ := dk_rd I.hok eb
  have hl : va.length = vb.length := by rw [← ra.length, ← rb.length]; exact hlen
  exact PySem.W.keq_eq (knd := mixKind X.prog X.w) (r := true) ya yb da db hu (fun _ => hits_all rb ra hp) (fin_bl I q (by simp [hl]))
end
/-- keys as data -/
def encK : Key → PyData
  | .inl i => .int i
  | .inr x => .str x
theorem encK_reads {P : Program} {w : World} {h : Heap} : ∀ (k : Key) (v : Value), (mixKind P w).is k v = true → Reads h v (encK k) [] := fun k v e => by
  rcases keyIs_shape (show keyIs k v = true from e) with ⟨i, t, rfl, rfl⟩ | ⟨x, t, rfl, rfl⟩
  · exact .int i t
  · exact .str x t
section
variable {κ : Type} {K : Kn κ} {G : Hp}
theorem kn_flat : ∀ {l : List (Key × V)} {ps : List (κ × Int)}, Paired (KvOk K rInt G) l ps → l = ps.map fun p => (K.enc p.1, V.int p.2)
  | _, _, .nil => rfl
  | _, _, .cons (a := kv) (b := p) h t => by
    rw [List.map_cons, ← kn_flat t]
    congr 1
    exact Prod.ext h.1 h.2
theorem valV_mem : ∀ {l : List (Key × V)} {p : Key × V}, (l.map (·.1)).Nodup → p ∈ l → valV l p.1 = some p.2
  | q :: l, p, nd, hp => by
    by_cases e : q.1 = p.1
    · rw [valV_pos e]
      rcases List.mem_cons.mp hp with h | h
      · rw [h]
      · exact absurd (show q.1 ∈ l.map (·.1) by rw [e]; exact List.mem_map.mpr ⟨p, h, rfl⟩) (List.nodup_cons.mp nd).1
    · rw [valV_neg e]
      rcases List.mem_cons.mp hp with h | h
      · exact absurd (by rw [h]) e
      · exact valV_mem (List.nodup_cons.mp nd).2 h
end
abbrev dicD {κ : Type} (K : Kn κ) (ps : List (κ × Int)) : PyData := .dict (ps.map fun p => (encK (K.enc p.1), .int p.2))
theorem pairs_read {h : Heap} : ∀ {l : List (Key × Int)} {vs : List (Key × Value)}, KV (l.map fun p => (p.1, V.int p.2)) vs → PyProof.V.PairsRead h encK vs (l.map fun p => (encK p.1, .int p.2)) []
  | [], _, h => by
    unfold KV at h
    cases h; exact .nil
  | p :: l, _, h => by
    unfold KV at h
    cases h with
    | @cons a b m n h t =>
      obtain ⟨h1, h2⟩ := h
      obtain ⟨k, v⟩ := b
      have h1 : p.1 = k := h1
      obtain ⟨tk, e⟩ := (show RelV (V.int p.2) v from h2)
      subst h1
      subst e
      exact PyProof.V.PairsRead.cons (as := []) (.int _ _) (pairs_read (show KV _ _ from t))
/-! how long the text of such a dict is -/
theorem kv_piled : ∀ {l : List (Key × Int)} {m : Nat}, (∀ p ∈ l, (encK p.1).shown.length ≤ m) → (∀ p ∈ l, p.2.natAbs < 2 ^ 100) → piled (PyData.shownKv (l.map fun p => (encK p.1, PyData.int p.2))) ≤ l.length * (m + 2004)
  | [], m, _, _ => by show piled [] ≤ _; rw [piled_nil]; omega
  | p :: l, m, h1, h2 => by
    have ih := kv_piled (l := l) (m := m) (fun q hq => h1 q (List.mem_cons_of_mem _ hq)) (fun q hq => h2 q (List.mem_cons_of_mem _ hq))
    have hk := h1 p List.mem_cons_self
    have hv := h2 p List.mem_cons_self
    have hl : p.2.natAbs.log2 < 1920 := by
      by_cases e : p.2.natAbs = 0
      · rw [e]; decide
      · have := (Nat.log2_lt e).mpr hv; omega
    have h3 := int_text_length_le (by decide) hl
    show piled (((encK p.1).shown ++ ": " ++ (PyData.int p.2).shown) :: PyData.shownKv (l.map fun p => (encK p.1, PyData.int p.2))) ≤ _
    rw [piled_cons, strLen_append, strLen_append]
    have e1 : ((": " : String) : Str).length = 2 := rfl
    have e2 : (PyData.int p.2).shown.length ≤ 2000 := by
      show (Str.ofString (toString p.2)).length ≤ 2000
      rw [PySem.ofString_length]; omega
    rw [e1, List.length_cons, Nat.add_mul]
    omega
theorem dictText_le (ts : List Str) : (dictText ts).length ≤ piled ts + 2 := by
  unfold dictText
  rw [strLen_append, strLen_append]
  have e1 : ((("{" : String) : Str)).length = 1 := rfl
  have e3 : (("}" : String) : Str).length = 1 := rfl
  rw [e1, e3]
  by_cases h : ts = []
  · subst h
    have : (Str.join ", " []).length = 0 := rfl
    omega
  · have := join_length_add ts h
    omega
theorem showable_kv : ∀ {l : List (Key × Int)}, (∀ p ∈ l, (encK p.1).showable = true) → (∀ p ∈ l, p.2.natAbs < 2 ^ 100) → PyData.showableKv (l.map fun p => (encK p.1, PyData.int p.2)) = true
  | [], _, _ => rfl
  | p :: l, h1, h2 => by
    have ih := showable_kv (l := l) (fun q hq => h1 q (List.mem_cons_of_mem _ hq)) (fun q hq => h2 q (List.mem_cons_of_mem _ hq))
    have hv := h2 p List.mem_cons_self
    have hl : p.2.natAbs.log2 < 1920 := by
      by_cases e : p.2.natAbs = 0
      · rw [e]; decide
      · have := (Nat.log2_lt e).mpr hv; omega
    show (((encK p.1).showable && decide (p.2.natAbs.log2 < 1920)) && PyData.showableKv _) = true
    rw [h1 p List.mem_cons_self, decide_eq_true hl, ih]; rfl
/-- what is asked of a dict that is shown -/
structure ToldD (l : List (Key × Int)) : Prop where
  len : l.length ≤ 1000
  key : ∀ p ∈ l, (encK p.1).showable = true ∧ (encK p.1).shown.length ≤ 2000
  val : ∀ p ∈ l, p.2.natAbs < 2 ^ 100
theorem depth_kv : ∀ l : List (Key × Int), PyData.depthKv (l.map fun p => (encK p.1, PyData.int p.2)) ≤ 1
  | [] => by decide
  | p :: l => by
    have ih := depth_kv l
    have e : PyData.depth (encK p.1) = 0 := by cases p.1 <;> rfl
    show max (max (PyData.depth (encK p.1)) (PyData.depth (.int p.2))) (PyData.depthKv _) ≤ 1
    rw [e]
    have e2 : PyData.depth (.int p.2) = 0 := rfl
    omega
theorem shown_dict (l : List (PyData × PyData)) : (PyData.dict l).shown = dictText (PyData.shownKv l) := by simp only [PyData.shown]
theorem dic_sz {l : List (Key × Int)} (t : ToldD l) : (PyData.dict (l.map fun p => (encK p.1, .int p.2))).shown.length ≤ sizeLine := by
  have h2 := kv_piled (m := 2000) (fun p hp => (t.key p hp).2) t.val
  have h3 := dictText_le (PyData.shownKv (l.map fun p => (encK p.1, PyData.int p.2)))
  have hl := t.len
  rw [shown_dict, sizeLine_eq]
  have h4 : l.length * (2000 + 2004) ≤ 1000 * 4004 := Nat.mul_le_mul_right _ hl
  generalize l.length * (2000 + 2004) = q at h2 h4
  omega
theorem dic_dp (l : List (Key × Int)) : (PyData.dict (l.map fun p => (encK p.1, .int p.2))).depth ≤ 60 := by
  have := depth_kv l
  show PyData.depthKv _ + 1 ≤ 60
  omega
theorem dic_sh {l : List (Key × Int)} (t : ToldD l) : (PyData.dict (l.map fun p => (encK p.1, .int p.2))).showable = true := showable_kv (fun p hp => (t.key p hp).1) t.val
/-- the text of such a dict -/
def dicT (l : List (Key × Int)) : Str := (PyData.dict (l.map fun p => (encK p.1, .int p.2))).shown
def rReprD : List V → Hp → VK → Prop := fun vs H Q => ∃ (a : Addr) (l : List (Key × Int)), vs = [V.ref a] ∧ Rd H a (.dK (l.map fun p => (p.1, V.int p.2))) ∧ ToldD l ∧ Q (.str (dicT l)) H
theorem cr_reprD {X : Cx} (hu : X.A.units + 70 < cLine) (hg : X.A.guards = some []) : CallR X (.builtin "repr") rReprD := by
  intro pins s σ H vs us Q I r h
  obtain ⟨a, l, rfl, hd, tl, q⟩ := h
  obtain ⟨u, rfl, ru⟩ := vals1 r
  cases ru
  obtain ⟨z, lo, vs, rel, dd⟩ := dk_rd I.hok hd
  have rd := PyProof.V.reads_dictOf (fun k v e => encK_reads k v e) dd (pairs_read (h := s.heap) rel)
  refine PySem.repr_of_reads' rd (dic_sh tl) (fun _ hm => ?_) hg (by have := dic_dp l; omega) (fun _ _ e => e) (fun h' u' tk hk => ⟨.str _, H, I.kept hk, ⟨u', rfl⟩, q⟩) (dic_sz tl)
  have := List.mem_singleton.mp hm
  rw [this] at lo
  simp at lo
section
variable {X : Cx} {M T : Md} {Γ : List Ent} {a b e : Expr} {α κ : Type} {R : Rp α} {K : Kn κ} {ps : List (κ × Int)} {pos p apos cpos np : Pos} {rest : List Stmt} {Po : Post} {nm : Str} {i : Nat}
theorem ev_eqDI (hu : X.A.units < cLine) (ha : EV X M a Γ (rDicE K rInt) ps) (hb : EV X M b Γ (rDicE K rInt) ps) (hn : (ps.map (·.1)).Nodup) (hm : behindInMarks .Eq b = false := by exact nomark _) : EV X M (.Compare a [.Eq] [b] pos) Γ rBool true :=
  ev_op2 (pe_cmpR (op_eqDR hu) pe_of pe_of hm) ha hb fun _ _ e1 e2 => by
    intro G H v w o r1 r2 Q k
    rw [e1] at r1
    rw [e2] at r2
    obtain ⟨a1, o1, l1, rfl, h1, p1⟩ := r1
    obtain ⟨a2, o2, l2, rfl, h2, p2⟩ := r2
    have q1 := kn_flat p1
    have q2 := kn_flat p2
    subst q1
    subst q2
    refine ⟨a1, a2, _, _, rfl, rfl, .inr ⟨o1, o.gh _ _ h1⟩, .inr ⟨o2, o.gh _ _ h2⟩, rfl, fun z hz => ⟨valV_mem ?_ hz, ?_⟩, k _ _ G H rfl (Step.refl o) rfl⟩
    · rw [List.map_map]
      have : ((fun x : Key × V => x.1) ∘ fun p : κ × Int => (K.enc p.1, V.int p.2)) = fun p => K.enc p.1 := rfl
      rw [this, show (ps.map fun p => K.enc p.1) = (ps.map (·.1)).map K.enc by simp]
      unfold List.Nodup at hn ⊢
      rw [List.pairwise_map]
      exact hn.imp fun h q => h (K.inj q)
    · obtain ⟨y, _, rfl⟩ := List.mem_map.mp hz
      rfl
theorem ev_reprD (hm : X.mg "repr" = none) (hu : X.A.units + 70 < cLine) (hgd : X.A.guards = some []) (ha : EV X M e Γ (rDicE K rInt) ps) (t : ToldD (ps.map fun p => (K.enc p.1, p.2))) (hg : Gl X "repr" := by rfl) (hs : starEach [e] X.env = (false, eval e X.env) :: starEach [] X.env := by rfl) (hpl : (backTo pos (starEach [] X.env)).any (·.1) = false := by rfl) : EV X M (.Call (.Name "repr" p) [e] [] pos) Γ rStr (dicT (ps.map fun p => (K.enc p.1, p.2))) :=
  ev_B (cr_reprD hu hgd) hm (by decide +kernel) (ea_cons ha ea_nil hs) (fun _ h => by
    subst h
    intro G H vs o ar Q k
    obtain ⟨v, rfl, a1, o1, l1, rfl, h1, p1⟩ := args1 ar
    rw [kn_flat p1] at h1
    have h2 : Rd H a1 (.dK ((ps.map fun p => (K.enc p.1, p.2)).map fun p => (p.1, V.int p.2))) := by
      rw [List.map_map]
      exact .inr ⟨o1, o.gh _ _ h1⟩
    exact ⟨a1, _, rfl, h2, t, k _ _ G H rfl (Step.refl o) rfl⟩) hg (by decide) (by decide) hs hpl
/-- == {} -/
theorem ev_eqE2 {dp : Pos} {ps : List (κ × α)} (hu : X.A.units < cLine) (ha : EV X M a Γ (rDicE K R) ps) (hm : behindInMarks .Eq (.Dict [] [] dp) = false := by exact nomark _) : EV X M (.Compare a [.Eq] [.Dict [] [] dp] pos) Γ rBool ps.isEmpty := by
  cases ps with
  | nil =>
    exact fun H0 G H σ t Q k => of_pe (pe_cmpR (op_eqDR hu) pe_of pe_dnewK hm) (ha H0 G H σ t _ fun v x G1 H1 e1 s1 r1 => by
      subst e1
      obtain ⟨q, ob, l, rfl, h2, h3⟩ := r1
      cases h3
      intro p hp
      have o1 := s1.okk t.ok
      have S1 := Step.own (u := .dK []) o1 hp trivial
      exact ⟨q, p, [], [], rfl, rfl, same_rd (same_upd hp) (.inr ⟨ob, s1.gh _ _ h2⟩), .inl upd_same, rfl, fun z hz => (by cases hz), k _ _ G1 _ rfl (s1.trans S1) rfl⟩)
  | cons z zs =>
    exact fun H0 G H σ t Q k => of_pe (pe_cmpR (op_eqE hu) pe_of pe_dnewK hm) (ha H0 G H σ t _ fun v x G1 H1 e1 s1 r1 => by
      subst e1
      obtain ⟨q, ob, l, rfl, h2, h3⟩ := r1
      intro p hp
      have o1 := s1.okk t.ok
      have S1 := Step.own (u := .dK []) o1 hp trivial
      refine ⟨q, p, l, [], rfl, rfl, same_rd (same_upd hp) (.inr ⟨ob, s1.gh _ _ h2⟩), .inl upd_same, ?_, k _ _ G1 _ rfl (s1.trans S1) rfl⟩
      have := paired_len h3
      rw [this]; simp)
/-! ### d.pop(k) -/
theorem drop_kn [BEq κ] [LawfulBEq κ] {R : Rp α} {G : Hp} {k : κ} : ∀ {l : List (Key × V)} {ps : List (κ × α)}, Paired (KvOk K R G) l ps → Paired (KvOk K R G) (dropK l (K.enc k)) (ps.filter fun p => !(p.1 == k))
  | _, _, .nil => .nil
  | _, _, .cons (a := kv) (b := p) (l₁ := l) (l₂ := ps) h t => by
    have ih := drop_kn (k := k) t
    have e1 : dropK (kv :: l) (K.enc k) = if kv.1 = K.enc k then dropK l (K.enc k) else kv :: dropK l (K.enc k) := by
      unfold dropK
      rw [List.filter_cons]
      by_cases q : kv.1 = K.enc k <;> simp [q]
    rw [e1, List.filter_cons]
    by_cases q : p.1 = k
    · rw [if_pos (by rw [h.1, q]), if_neg (by rw [q]; simp)]
      exact ih
    · rw [if_neg (fun z => q (K.inj (h.1.symm.trans z))), if_pos (by simpa using q)]
      exact .cons h ih
/-- d.pop(k), d one's own, k in it -/
theorem ss_dpop [BEq κ] [LawfulBEq κ] {ps : List (κ × α)} {k : κ} {x : α} (i : Nat) (hi : Γ[i]? = some (.own2 (muD K R ps))) (hb : EV X M b Γ K.R k) (hx : ps.lookup k = some x) (hr : SSt X M T rest (Γ.set i (.own2 (muD K R (ps.filter fun p => !(p.1 == k))))) Po)
    (hN : X.N[i]? = some nm := by rfl) (hv : Vis X.env.scope nm := by first | exact Or.inl rfl | exact Or.inr (Or.inl rfl) | exact Or.inr (Or.inr rfl)) (hd : (nm == ("__debug__" : Str)) = false := by decide) (hcd : (nm == ("__classdict__" : Str)) = false := by decide)
    (hm : L2.M1 X (.Name nm np) "pop" apos b cpos := by exact ⟨rfl, rfl, rfl, rfl⟩) (hsw : swapsWith (.Call (.Attribute (.Name nm np) "pop" apos) [b] [] cpos) none pos.line X.env = pure false := by rfl) : SSt X M T (.Expr (.Call (.Attribute (.Name nm np) "pop" apos) [b] [] cpos) pos :: rest) Γ Po :=
  ss_consG (M1 := M) (N := fun Γ' => Γ' = Γ.set i (.own2 (muD K R (ps.filter fun p => !(p.1 == k))))) (fun G0 H0 G H σ D t s m => of_ps (ps_expr (pe_dpop1 (pe_var hN hv hd hcd) pe_of hm) hsw) (by
    obtain ⟨q, u, h1, h2, h3, h4, h5, ⟨kvs, rfl, h6⟩⟩ := t.ent i _ hi
    refine ⟨_, h1, q, rfl, .inl ⟨kvs, .inl h2⟩, hb H0 G H σ t _ fun w z G2 H2 e2 s2 r2 => ?_⟩
    subst e2
    have t2 := t.step s2
    obtain ⟨q', u, h1', h2', h3', h4', h5', ⟨kvs', rfl, h6'⟩⟩ := t2.ent i _ hi
    rw [h1] at h1'; cases h1'
    obtain ⟨v, hv', _⟩ := (valV_kn h6').1 x hx
    refine ⟨kvs', K.enc z, v, h2', K.val r2, hv', ?_⟩
    have S := s.trans s2
    exact m.nx _ σ G2 _ rfl (t2.chgM hi h1 trivial ⟨_, rfl, drop_kn h6'⟩) (S.chgU t2.ok h3' h4' h5' trivial))) fun _ q => q ▸ hr
end
end RT

/-! RT28: what kind a value is of; list of a tuple; numbers in tuples; tests of either outcome. -/
namespace RT
open PySem L2
instance : LawfulBEq Key where
  eq_of_beq := fun {a b} h => by
    cases a with
    | inl x =>
      cases b with
      | inl y => rw [LawfulBEq.eq_of_beq (show (x == y) = true from h)]
      | inr y => exact absurd (show false = true from h) (by decide)
    | inr x =>
      cases b with
      | inl y => exact absurd (show false = true from h) (by decide)
      | inr y => rw [LawfulBEq.eq_of_beq (show (x == y) = true from h)]
  rfl := fun {a} => by
    cases a with
    | inl x => exact (show (x == x) = true from beq_self_eq_true x)
    | inr x => exact (show (x == x) = true from beq_self_eq_true x)
section
variable {X : Cx} {M N T : Md} {Γ : List Ent} {a b c e : Expr} {α κ : Type} {R : Rp α} {xs : List α} {pos p : Pos} {n : Int} {ns : List Int} {K : Kn κ} {ps : List (κ × α)} {Po : Post} {rest sa : List Stmt}
theorem ty_dicE {F : PySem.W.Frag} : TyR F (rDicE K R) ps (.type "dict") := fun G H v e ⟨a, o, vs, q, h, _⟩ => by
  subst q
  exact .fDict (e _ _ h)
def Th.ty : Th → Value
  | .non => .type "NoneType"
  | .int _ => .type "int"
  | .tup _ => .type "tuple"
  | .lst _ => .type "list"
  | .dic _ => .type "dict"
theorem ty_th {F : PySem.W.Frag} : ∀ x : Th, TyR F rTh x x.ty
  | .non => fun G H v e r => ty_none (K := F) G H v e r
  | .int i => fun G H v e r => ty_int (K := F) G H v e r
  | .tup ns => fun G H v e r => ty_tup (K := F) (R := rInt) (xs := ns) G H v e r
  | .lst ns => fun G H v e r => ty_lst (K := F) (R := rInt) (xs := ns) G H v e r
  | .dic ps => fun G H v e r => ty_dicE (F := F) (K := knK) (R := rVl) (ps := ps) G H v e r
def Vl.ty : Vl → Value
  | .non => .type "NoneType"
  | .int _ => .type "int"
  | .str _ => .type "str"
  | .tup _ => .type "tuple"
theorem ty_vl {F : PySem.W.Frag} : ∀ x : Vl, TyR F rVl x x.ty
  | .non => fun G H v e r => ty_none (K := F) G H v e r
  | .int i => fun G H v e r => ty_int (K := F) G H v e r
  | .str s => fun G H v e r => ty_str (K := F) G H v e r
  | .tup ns => fun G H v e r => ty_tup (K := F) (R := rInt) (xs := ns) G H v e r
def tyK : Key → Value
  | .inl _ => .type "int"
  | .inr _ => .type "str"
theorem ty_key {F : PySem.W.Frag} : ∀ x : Key, TyR F rKey x (tyK x)
  | .inl i => fun G H v e r => ty_int (K := F) (i := i) G H v e r
  | .inr s => fun G H v e r => ty_str (K := F) (i := s) G H v e r
def Th.isD : Th → Bool
  | .dic _ => true
  | _ => false
theorem th_dict {F : PySem.W.Frag} : ∀ x : Th, PySem.W.kitOne F x.ty (.type "dict") = some x.isD
  | .non => kit_ty (r := false) (by decide +kernel)
  | .int i => kit_ty (r := false) (by decide +kernel)
  | .tup ns => kit_ty (r := false) (by decide +kernel)
  | .lst ns => kit_ty (r := false) (by decide +kernel)
  | .dic ps => kit_ty (r := true) (by decide +kernel)
def Vl.isI : Vl → Bool
  | .int _ => true
  | _ => false
theorem vl_int {F : PySem.W.Frag} : ∀ x : Vl, PySem.W.kitOne F x.ty (.type "int") = some x.isI
  | .non => kit_ty (r := false) (by decide +kernel)
  | .int i => kit_ty (r := true) (by decide +kernel)
  | .tup ns => kit_ty (r := false) (by decide +kernel)
  | .str ns => kit_ty (r := false) (by decide +kernel)
theorem vl_bool {F : PySem.W.Frag} : ∀ x : Vl, PySem.W.kitOne F x.ty (.type "bool") = some false
  | .non => kit_ty (r := false) (by decide +kernel)
  | .int i => kit_ty (r := false) (by decide +kernel)
  | .tup ns => kit_ty (r := false) (by decide +kernel)
  | .str ns => kit_ty (r := false) (by decide +kernel)
def keyI : Key → Bool
  | .inl _ => true
  | .inr _ => false
theorem key_int {F : PySem.W.Frag} : ∀ x : Key, PySem.W.kitOne F (tyK x) (.type "int") = some (keyI x)
  | .inl i => kit_ty (r := true) (by decide +kernel)
  | .inr s => kit_ty (r := false) (by decide +kernel)
theorem key_bool {F : PySem.W.Frag} : ∀ x : Key, PySem.W.kitOne F (tyK x) (.type "bool") = some false
  | .inl i => kit_ty (r := false) (by decide +kernel)
  | .inr s => kit_ty (r := false) (by decide +kernel)
/-- list(t), t a tuple -/
theorem ef_listT (hm : X.mg "list" = none) (ha : EV X M e Γ (rTup R) xs) (hg : Gl X "list" := by rfl) (hs : starEach [e] X.env = (false, eval e X.env) :: starEach [] X.env := by rfl) (hpl : (backTo pos (starEach [] X.env)).any (·.1) = false := by rfl) : EF X M (.Call (.Name "list" p) [e] [] pos) Γ R xs :=
  ef_Ty call_list_of hm (by decide +kernel) (ea_cons ha ea_nil hs) (fun _ h => by
    subst h
    intro G H vs o ar Q k
    obtain ⟨v, rfl, a, us, rfl, h2, h3⟩ := args1 ar
    have hz := o.sz a us (.inr (rd_up o.gh h2))
    exact ⟨a, us, rfl, .inr (.inl (rd_up o.gh h2)), fun l hl => k l us xs G _ rfl (Step.own o hl hz) hl (o.gnone hl) upd_same h3⟩) hg (by decide) (by decide) hs hpl
/-- a number in a tuple of numbers -/
theorem ev_inTI (ha : EV X M a Γ rInt n) (hb : EV X M b Γ (rTup rInt) ns) (hm : behindInMarks .In b = false := by rfl) : EV X M (.Compare a [.In] [b] pos) Γ rBool (decide (n ∈ ns)) := ev_op2 (pe_cmpR op_in_seq pe_of pe_of hm) ha hb (fun i l h1 h2 G H v w o r1 r2 Q k => by
  subst h1 h2
  obtain ⟨q, vs, rfl, h3, h4⟩ := id r2
  rw [paired_ints h4] at h3
  exact ⟨q, _, rfl, .inr (.inl (rd_up o.gh h3)), by rw [show v = V.int i from r1]; rfl, flat_ints _, k _ _ G H rfl (Step.refl o) (by rw [show v = V.int i from r1, inV_ints]; rfl)⟩)
end
/-! ### == of lists of numbers -/
theorem eqvAll_ints : ∀ a b : List Int, PyData.eqvAll (a.map PyData.int) (b.map PyData.int) = decide (a = b)
  | [], [] => rfl
  | [], _ :: _ => rfl
  | _ :: _, [] => rfl
  | x :: a, y :: b => by
    show (PyData.eqv (.int x) (.int y) && PyData.eqvAll (a.map PyData.int) (b.map PyData.int)) = _
    rw [eqvAll_ints a b, show PyData.eqv (.int x) (.int y) = decide (x = y) from rfl]
    by_cases h1 : x = y <;> by_cases h2 : a = b <;> simp [h1, h2]
theorem eqv_lst (a b : List Int) : PyData.eqv (.list (a.map PyData.int)) (.list (b.map PyData.int)) = decide (a = b) := by
  rw [← eqvAll_ints]; rfl
theorem eqv_tup (a b : List Int) : PyData.eqv (.tuple (a.map PyData.int)) (.tuple (b.map PyData.int)) = decide (a = b) := by
  rw [← eqvAll_ints]; rfl
section
variable {X : Cx} {M : Md} {Γ : List Ent} {a b : Expr} {pos : Pos} {xs ys : List Int}
theorem ev_eqLL (hu : X.A.units + 64 < cLine) (ha : EV X M a Γ (rLst rInt) xs) (hb : EV X M b Γ (rLst rInt) ys) (hm : behindInMarks .Eq b = false := by exact nomark _) : EV X M (.Compare a [.Eq] [b] pos) Γ rBool (decide (xs = ys)) := by
  rw [← eqv_lst]
  exact ev_eqD hu ha hb (hd_lst PyData.int fun _ _ => hd_int) (hd_lst PyData.int fun _ _ => hd_int) shaped_ints shaped_ints hm
theorem ev_neLL (hu : X.A.units + 64 < cLine) (ha : EV X M a Γ (rLst rInt) xs) (hb : EV X M b Γ (rLst rInt) ys) (hm : behindInMarks .NotEq b = false := by exact nomark _) : EV X M (.Compare a [.NotEq] [b] pos) Γ rBool (!decide (xs = ys)) := by
  rw [← eqv_lst]
  exact ev_neD hu ha hb (hd_lst PyData.int fun _ _ => hd_int) (hd_lst PyData.int fun _ _ => hd_int) shaped_ints shaped_ints hm
theorem ev_neTT (hu : X.A.units + 64 < cLine) (ha : EV X M a Γ (rTup rInt) xs) (hb : EV X M b Γ (rTup rInt) ys) (hm : behindInMarks .NotEq b = false := by exact nomark _) : EV X M (.Compare a [.NotEq] [b] pos) Γ rBool (!decide (xs = ys)) := by
  rw [← eqv_tup]
  exact ev_neD hu ha hb (hd_tup PyData.int fun _ _ => hd_int) (hd_tup PyData.int fun _ _ => hd_int) shaped_intsT shaped_intsT hm
end
/-! ### lists and tuples of ranges -/
theorem rgV_upto {i : Int} (h : 0 ≤ i) : rgV 0 i = (upto 0 i.toNat).map V.int := by
  unfold rgV upto
  rw [List.map_map, Int.sub_zero]; rfl
section
variable {X : Cx} {M : Md} {Γ : List Ent} {a : Expr} {pos p p2 pos2 : Pos} {i : Int}
theorem ev_tupRg (hc : X.calm = true) (hm : X.mg "tuple" = none) (hm2 : X.mg "range" = none) (ha : EV X M a Γ rInt i) (h : 0 ≤ i ∧ i ≤ 16777216) (hg : Gl X "tuple" := by rfl) (hg2 : Gl X "range" := by rfl) (na : starEach [a] X.env = (false, eval a X.env) :: starEach [] X.env := by rfl) (nb : starEach [.Call (.Name "range" p2) [a] [] pos2] X.env = (false, eval (.Call (.Name "range" p2) [a] [] pos2) X.env) :: starEach [] X.env := by rfl) :
    EV X M (.Call (.Name "tuple" p) [.Call (.Name "range" p2) [a] [] pos2] [] pos) Γ (rTup rInt) (upto 0 i.toNat) := fun H0 G H σ t Q k =>
  of_pe (pe_tupRg hc hg hm (prg_1 hg2 hm2 pe_of na) nb) (ha H0 G H σ t _ fun v x G1 H1 ex s r => by
    subst ex
    refine ⟨x, r, RgOk.of_le (Int.le_refl 0) h.2 (by decide) h.1, fun q hq => ?_⟩
    rw [rgV_upto h.1]
    have o1 := s.okk t.ok
    exact k _ _ _ _ rfl (s.trans (Step.new (u := .tup ((upto 0 x.toNat).map V.int)) o1 hq (by show (List.map V.int _).length ≤ sizeLine; rw [List.length_map, upto_len, sizeLine_eq]; omega))) ⟨q, _, rfl, .inl upd_same, ints_paired _⟩)
theorem ef_listRg (hc : X.calm = true) (hm : X.mg "list" = none) (hm2 : X.mg "range" = none) (ha : EV X M a Γ rInt i) (h : 0 ≤ i ∧ i ≤ 16777216) (hg : Gl X "list" := by rfl) (hg2 : Gl X "range" := by rfl) (na : starEach [a] X.env = (false, eval a X.env) :: starEach [] X.env := by rfl) (nb : starEach [.Call (.Name "range" p2) [a] [] pos2] X.env = (false, eval (.Call (.Name "range" p2) [a] [] pos2) X.env) :: starEach [] X.env := by rfl) :
    EF X M (.Call (.Name "list" p) [.Call (.Name "range" p2) [a] [] pos2] [] pos) Γ rInt (upto 0 i.toNat) := fun H0 G H σ t Q k =>
  of_pe (pe_listRg hc hg hm (prg_1 hg2 hm2 pe_of na) nb) (ha H0 G H σ t _ fun v x G1 H1 ex s r => by
    subst ex
    refine ⟨x, r, RgOk.of_le (Int.le_refl 0) h.2 (by decide) h.1, fun q hq => ?_⟩
    rw [rgV_upto h.1]
    have o1 := s.okk t.ok
    exact k q _ (upto 0 x.toNat) G1 _ rfl (s.trans (Step.own (u := .lst ((upto 0 x.toNat).map V.int)) o1 hq (by show (List.map V.int _).length ≤ sizeLine; rw [List.length_map, upto_len, sizeLine_eq]; omega))) (s.fresh hq) (o1.gnone hq) upd_same (ints_paired _))
end
section
variable {X : Cx} {M : Md} {Γ : List Ent} {a b e : Expr} {pos : Pos} {ys : List Int} {P : List Int → Prop} {bb : Bool} {ps : List (Key × Vl)} {i n : Int}
theorem ev_thD (h : EV X M e Γ rTh (.dic ps)) : EV X M e Γ (rDicE knK rVl) ps := ev_conv h fun _ _ r => r
theorem ev_keyI (h : EV X M e Γ rInt i) : EV X M e Γ knK.R (Sum.inl i) := ev_conv h fun _ _ r => r
theorem ev_vlI (h : EV X M e Γ rVl (.int n)) : EV X M e Γ rInt n := ev_conv h fun _ _ r => r
theorem ev_eqLP (hu : X.A.units + 64 < cLine) (ha : EVp X M a Γ (rLst rInt) P) (hb : EV X M b Γ (rLst rInt) ys) (h : ∀ xs, P xs → decide (xs = ys) = bb) (hm : behindInMarks .Eq b = false := by exact nomark _) : EV X M (.Compare a [.Eq] [b] pos) Γ rBool bb :=
  ev_op2 (pe_cmpR (op_eqD hu) pe_of pe_of hm) ha hb fun x y e1 e2 => by
    subst e2
    intro G H v w o r1 r2 Q k
    exact ⟨.list (x.map PyData.int), .list (y.map PyData.int), hd_lst PyData.int (fun _ _ => hd_int) _ H v ((rLst rInt).mono o.gh r1), hd_lst PyData.int (fun _ _ => hd_int) _ H w ((rLst rInt).mono o.gh r2), shaped_ints, shaped_ints, k _ _ G H rfl (Step.refl o) (by rw [eqv_lst, h x e1]; rfl)⟩
theorem ev_neLP (hu : X.A.units + 64 < cLine) (ha : EVp X M a Γ (rLst rInt) P) (hb : EV X M b Γ (rLst rInt) ys) (h : ∀ xs, P xs → decide (xs = ys) = bb) (hm : behindInMarks .NotEq b = false := by exact nomark _) : EV X M (.Compare a [.NotEq] [b] pos) Γ rBool (!bb) :=
  ev_op2 (pe_cmpR (op_neD hu) pe_of pe_of hm) ha hb fun x y e1 e2 => by
    subst e2
    intro G H v w o r1 r2 Q k
    exact ⟨.list (x.map PyData.int), .list (y.map PyData.int), hd_lst PyData.int (fun _ _ => hd_int) _ H v ((rLst rInt).mono o.gh r1), hd_lst PyData.int (fun _ _ => hd_int) _ H w ((rLst rInt).mono o.gh r2), shaped_ints, shaped_ints, k _ _ G H rfl (Step.refl o) (by rw [eqv_lst, h x e1]; rfl)⟩
end
end RT

/-! RT29: list comprehensions of two loops; texts put together; the least of pairs. -/
namespace RT
open PySem L2
/-- what the second loop of a block walks -/
def wiBlk (X : Cx) (scope : Scope) (tg iter : Expr) : TI := fun σ H K => ∀ (s : Shared) (H1 : Hp) (C : Addr) (cl : List (Str × Addr)) (fp : List Addr), ∃ wi : TI, PI (X.blk s H1 scope (compEnvC scope cl C X.env) fp) tg iter wi ∧ wi σ H K
theorem pi_blk {X : Cx} {scope : Scope} {tg iter : Expr} (s : Shared) (H : Hp) (C : Addr) (cl : List (Str × Addr)) (fp : List Addr) : PI (X.blk s H scope (compEnvC scope cl C X.env) fp) tg iter (wiBlk X scope tg iter) := ⟨fun pins s' σ H' R I h => by
  obtain ⟨wi, hp, q⟩ := h s H C cl fp
  exact hp.run pins s' σ H' R I q⟩
/-- where nothing is one's own, what is told stays told -/
theorem Stt.carry {M : Md} {H0 G H G' H' : Hp} {Γ : List Ent} {σ : St} (hn : ∀ j : Nat, ¬ IsOwn Γ[j]?) (t : Stt M H0 Γ σ G H) (o : Okk M G' H') (g : Same G G') : Stt M H0 Γ σ G' H' := by
  refine ⟨o, t.len, fun j e h => ?_, fun j k b hjk o1 _ => absurd o1 (hn j)⟩
  have q := t.ent j e h
  have n := hn j
  rw [h] at n
  cases e with
  | any => trivial
  | val R' x' => obtain ⟨w, z1, z2⟩ := q; exact ⟨w, z1, R'.mono g z2⟩
  | own R' xs' => exact absurd trivial n
  | own2 U => exact absurd trivial n
  | adr b => exact q
  | obj b C fs => exact absurd trivial n
section
variable {X : Cx} {M : Md} {Γ : List Ent} {α β γ : Type} {R : Rp α} {R1 : Rp γ} {S : Rp β} {tg iter tg1 iter1 elt : Expr} {pos : Pos} {xs : List α} {f : α → List Ent → List Ent} {f1 : γ → List Ent → List Ent} {sl sl1 : List Nat}
/-- the core of both forms -/
theorem lc2_walk {scope : Scope} {own : List (Str × Nat)} {vs1 : List Nat} {ys : α → List γ} {g : α → γ → β} {wi : TI}
    (hw : ∀ (H0 G H : Hp) (σ : St), Stt M H0 Γ σ G H → ∀ K : It → Hp → Prop, (∀ J zs G' H', zs = xs → zs.length ≤ sizeLine → Step M G H G' H' → (∀ M', TWalk M' J R zs G') → K J H') → wi σ H K)
    (hown : ∀ (x : α) (j : Nat), ¬ IsOwn (f x (wipeE Γ (own.map (·.2))))[j]?) (hsl : ∀ j ∈ sl, j ∈ own.map (·.2)) (hsl1 : ∀ j ∈ sl1, j ∈ vs1)
    (tgv : ∀ (s : Shared) (H : Hp) (C : Addr) (cl : List (Str × Addr)) (fp : List Addr) (M : Md), TGv (X.blk s H scope (compEnvC scope cl C X.env) fp) M tg R f sl)
    (it1 : ∀ (s : Shared) (H : Hp) (C : Addr) (cl : List (Str × Addr)) (fp : List Addr) x, x ∈ xs → ITv (X.blk s H scope (compEnvC scope cl C X.env) fp) M tg1 iter1 (f x (wipeE Γ (own.map (·.2)))) R1 (ys x))
    (tgv1 : ∀ (s : Shared) (H : Hp) (C : Addr) (cl : List (Str × Addr)) (fp : List Addr) (M : Md), TGv (X.blk s H scope (compEnvC scope cl C X.env) fp) M tg1 R1 f1 sl1)
    (he : ∀ (s : Shared) (H : Hp) (C : Addr) (cl : List (Str × Addr)) (fp : List Addr) x y, x ∈ xs → y ∈ ys x → EV (X.blk s H scope (compEnvC scope cl C X.env) fp) M elt (f1 y (wipeE (f x (wipeE Γ (own.map (·.2)))) vs1)) S (g x y))
    (hz : (xs.map fun x => (ys x).map (g x)).flatten.length ≤ 16777216)
    (H0 G H : Hp) (σ : St) (t : Stt M H0 Γ σ G H) (Q : VK) (k : ∀ p vs zs G' H', zs = (xs.map fun x => (ys x).map (g x)).flatten → Step M G H G' H' → H p = none → G' p = none → H' p = some (.lst vs) → Paired (S.rel G') vs zs → Q (.ref p) H') :
    tLc2 wi (gBlk X scope tg) (ttBlk X scope []) (wiBlk X scope tg1 iter1) (gBlk X scope tg1) (ttBlk X scope []) (teBlk X scope elt) (own.map (·.2)) vs1 σ H Q := by
  refine hw H0 G H σ t _ fun J xs' G1 H1 px hzl s1 tw D hD => ?_
  subst px
  obtain ⟨Gd, Y, g1, wk, g2⟩ := tw M
  have o1 := s1.okk t.ok
  have t1 := t.step s1
  have dF := o1.nf hD
  have new := Step.own (u := .lst []) o1 hD (Nat.zero_le _)
  let pre : Nat → List β := fun i => ((xs'.take i).map fun x => (ys x).map (g x)).flatten
  let Pv : List β → Hp → Prop := fun zs H2 => ∃ G2 vs, Step M G1 H1 G2 H2 ∧ H2 D = some (.lst vs) ∧ G2 D = none ∧ Paired (S.rel G2) vs zs
  have preS : ∀ i x, xs'[i]? = some x → pre (i + 1) = pre i ++ (ys x).map (g x) := fun i x hx => by
    show ((xs'.take (i + 1)).map _).flatten = _
    rw [List.take_add_one, hx, List.map_append, List.flatten_append]
    simp [pre]
  have preL : ∀ i x, xs'[i]? = some x → (pre i).length + (ys x).length ≤ 16777216 := fun i x hx => by
    have h1 : (pre (i + 1)).length ≤ (xs'.map fun x => (ys x).map (g x)).flatten.length := by
      have e : (xs'.map fun x => (ys x).map (g x)).flatten = pre (i + 1) ++ ((xs'.drop (i + 1)).map fun x => (ys x).map (g x)).flatten := by
        show _ = ((xs'.take (i + 1)).map _).flatten ++ _
        rw [← List.flatten_append, ← List.map_append, List.take_append_drop]
      rw [e, List.length_append]
      omega
    rw [preS i x hx, List.length_append, List.length_map] at h1
    omega
  have fin : ∀ H2, Pv (pre xs'.length) H2 → Q (.ref D) H2 := fun H2 ⟨G2, vs, s2, h2, gD, py⟩ => by
    refine k D vs _ G2 H2 rfl (s1.trans s2) (s1.fresh hD) gD h2 ?_
    show Paired _ vs (xs'.map _).flatten
    have : pre xs'.length = (xs'.map fun x => (ys x).map (g x)).flatten := by show ((xs'.take xs'.length).map _).flatten = _; rw [List.take_length]
    rw [← this]; exact py
  refine ⟨fun i m H => m = xs'.length - i ∧ i ≤ xs'.length ∧ Pv (pre i) H, ⟨xs'.length, by simp, Nat.zero_le _, G1, [], new, upd_same, o1.gnone hD, .nil⟩, ?_⟩
  rintro i m H2 ⟨rfl, hi', p⟩
  have q : Gd H2 := by obtain ⟨G2, _, s2, _⟩ := p; exact g1 G2 H2 s2.g s2.gh
  by_cases hlt : i < xs'.length
  · refine .inr ⟨wk.goes i H2 hlt q, Pv (pre (i + 1)), fun H' p' => ⟨xs'.length - (i + 1), by omega, rfl, hlt, p'⟩, fun v H3 hy => ?_⟩
    obtain ⟨G2, vs, s2, h2, gD, py⟩ := p
    obtain ⟨G3, x, hx, s3, r3⟩ := g2 i H2 v H3 G2 s2.g (s2.okk o1) (wk.yields i H2 v H3 hlt q hy)
    have S3 := s2.trans s3
    have hxm : x ∈ xs' := List.mem_of_getElem? hx
    have nD : H2 D ≠ none := by rw [h2]; exact fun z => nomatch z
    intro s0 H00 C cl fp
    refine tgv s0 H00 C cl fp M H0 G3 H3 (L2.wipe σ (own.map (·.2))) (wipeE Γ (own.map (·.2))) v x ((t1.step S3).wipe _) r3 _ ?_
    intro σ4 t4 hl4 ha4
    refine And.intro ?_ ?_
    · rw [wipe_eq (τ := L2.wipe σ (own.map (·.2))) hl4 fun j hj => ha4 j fun z => hj (hsl j z)]
      exact wipe_eq (wipe_length _ _) fun j hj => wipe_at hj
    · intro s0 H00 C cl fp
      refine ts_nil (X := X.blk s0 H00 scope (compEnvC scope cl C X.env) fp) H0 G3 H3 σ4 t4 _ fun G5 H5 s5 => ?_
      rw [if_pos rfl]
      intro s0 H00 C cl fp
      obtain ⟨wi1, hp1, hw1⟩ := it1 s0 H00 C cl fp x hxm
      refine ⟨wi1, hp1, hw1 H0 G5 H5 σ4 (t4.step s5) _ fun J1 ws G6 H6 pw hzw s6 tw1 => ?_⟩
      subst pw
      have S6 := (S3.trans s5).trans s6
      have s36 := (s3.trans s5).trans s6
      have h6 : H6 D = some (.lst vs) := s36.h D _ dF h2
      have g6 : G6 D = none := s36.nw D nD gD
      have py6 : Paired (S.rel G6) vs (pre i) := S.pmono s36.g py
      have t6 := (t4.step s5).step s6
      obtain ⟨Gd1, Y1, g11, wk1, g21⟩ := tw1 M
      let Pw : Nat → Hp → Prop := fun j H7 => ∃ G7 ws7, Step M G1 H1 G7 H7 ∧ Same G6 G7 ∧ H7 D = some (.lst ws7) ∧ G7 D = none ∧ Paired (S.rel G7) ws7 (pre i ++ ((ys x).take j).map (g x))
      refine ⟨fun j m H => m = (ys x).length - j ∧ j ≤ (ys x).length ∧ Pw j H, ⟨(ys x).length, by simp, Nat.zero_le _, G6, vs, S6, Same.refl _, h6, g6, by simpa using py6⟩, ?_⟩
      rintro j m H7 ⟨rfl, hj', p7⟩
      have q7 : Gd1 H7 := by obtain ⟨G7, _, s7, sm7, _⟩ := p7; exact g11 G7 H7 sm7 s7.gh
      by_cases hlt1 : j < (ys x).length
      · refine .inr ⟨wk1.goes j H7 hlt1 q7, Pw (j + 1), fun H' p' => ⟨(ys x).length - (j + 1), by omega, rfl, hlt1, p'⟩, fun v1 H8 hy1 => ?_⟩
        obtain ⟨G7, ws7, s7, sm7, h7, g7, py7⟩ := p7
        obtain ⟨G8, y, hy, s8, r8⟩ := g21 j H7 v1 H8 G7 sm7 (s7.okk o1) (wk1.yields j H7 v1 H8 hlt1 q7 hy1)
        have hym : y ∈ ys x := List.mem_of_getElem? hy
        have nD7 : H7 D ≠ none := by rw [h7]; exact fun z => nomatch z
        have S8 := s7.trans s8
        intro s0 H00 C cl fp
        refine tgv1 s0 H00 C cl fp M H0 G8 H8 (L2.wipe σ4 vs1) (wipeE (f x (wipeE Γ (own.map (·.2)))) vs1) v1 y ((t6.carry (hown x) (S8.okk o1) (sm7.trans s8.g)).wipe _) r8 _ ?_
        intro σ9 t9 hl9 ha9
        refine And.intro ?_ ?_
        · rw [wipe_eq (τ := L2.wipe σ4 vs1) hl9 fun j hj => ha9 j fun z => hj (hsl1 j z)]
          exact wipe_eq (wipe_length _ _) fun j hj => wipe_at hj
        · intro s0 H00 C cl fp
          refine ts_nil (X := X.blk s0 H00 scope (compEnvC scope cl C X.env) fp) H0 G8 H8 σ9 t9 _ fun G10 H10 s10 => ?_
          rw [if_pos rfl]
          intro s0 H00 C cl fp
          refine he s0 H00 C cl fp x y hxm hym H0 G10 H10 σ9 (t9.step s10) _ fun w z G11 H11 ez s11 r11 => ?_
          subst ez
          have sA := (s8.trans s10).trans s11
          have SA := s7.trans sA
          have hD11 : H11 D = some (.lst ws7) := sA.h D _ dF h7
          have gD11 : G11 D = none := sA.nw D nD7 g7
          have hwl : ws7.length = (pre i ++ ((ys x).take j).map (g x)).length := paired_len py7
          rw [List.length_append, List.length_map, List.length_take] at hwl
          have hpl := preL i x hx
          have hlen : ws7.length < sizeLine := by rw [sizeLine_eq]; omega
          have hz' : (ws7 ++ [w]).length ≤ sizeLine := by rw [List.length_append]; simp; omega
          refine ⟨ws7, hD11, hlen, G11, ws7 ++ [w], SA.chg (SA.okk o1) gD11 dF hD hz', sm7.trans sA.g, upd_same, gD11, ?_⟩
          · rw [show ((ys x).take (j + 1)).map (g x) = ((ys x).take j).map (g x) ++ [g x y] by rw [List.take_add_one, hy, List.map_append]; rfl, ← List.append_assoc]
            exact Paired.snoc (S.pmono sA.g py7) r11
      · have e : j = (ys x).length := by omega
        subst e
        refine .inl ⟨wk1.stops H7 q7, ?_⟩
        obtain ⟨G7, ws7, s7, sm7, h7, g7, py7⟩ := p7
        rw [List.take_length] at py7
        exact ⟨G7, ws7, s7, h7, g7, by rw [preS i x hx]; exact py7⟩
  · have e : i = xs'.length := by omega
    subst e
    exact .inl ⟨wk.stops H2 q, fin H2 p⟩
/-- [elt for tg in iter for tg1 in iter1] -/
theorem ef_lc2 {scope : Scope} {own : List (Str × Nat)} {vs1 : List Nat} {ys : α → List γ} {g : α → γ → β} (hc : X.calm = true) (hN : X.N.Nodup) (it : ITv X M tg iter Γ R xs) (ok : BlkOk X.N X.env.scope scope own) (hv : ∀ i ∈ vs1, i ∈ own.map (·.2))
    (hown : ∀ (x : α) (j : Nat), ¬ IsOwn (f x (wipeE Γ (own.map (·.2))))[j]?) (hsl : ∀ j ∈ sl, j ∈ own.map (·.2)) (hsl1 : ∀ j ∈ sl1, j ∈ vs1)
    (tgv : ∀ (s : Shared) (H : Hp) (C : Addr) (cl : List (Str × Addr)) (fp : List Addr) (M : Md), TGv (X.blk s H scope (compEnvC scope cl C X.env) fp) M tg R f sl)
    (it1 : ∀ (s : Shared) (H : Hp) (C : Addr) (cl : List (Str × Addr)) (fp : List Addr) x, x ∈ xs → ITv (X.blk s H scope (compEnvC scope cl C X.env) fp) M tg1 iter1 (f x (wipeE Γ (own.map (·.2)))) R1 (ys x))
    (tgv1 : ∀ (s : Shared) (H : Hp) (C : Addr) (cl : List (Str × Addr)) (fp : List Addr) (M : Md), TGv (X.blk s H scope (compEnvC scope cl C X.env) fp) M tg1 R1 f1 sl1)
    (he : ∀ (s : Shared) (H : Hp) (C : Addr) (cl : List (Str × Addr)) (fp : List Addr) x y, x ∈ xs → y ∈ ys x → EV (X.blk s H scope (compEnvC scope cl C X.env) fp) M elt (f1 y (wipeE (f x (wipeE Γ (own.map (·.2)))) vs1)) S (g x y))
    (hz : (xs.map fun x => (ys x).map (g x)).flatten.length ≤ 16777216) (hs : ∀ x, foldedSetIterable iter X.env x = pure x := by intro _; rfl) (hs1 : ∀ env x, foldedSetIterable iter1 env x = pure x := by intro _ _; rfl) :
    EF X M (.ListComp elt [⟨tg, iter, [], 0⟩, ⟨tg1, iter1, [], 0⟩] scope pos) Γ S ((xs.map fun x => (ys x).map (g x)).flatten) := fun H0 G H σ t Q k => by
  obtain ⟨wi, hi, hw⟩ := it
  exact of_pe (pe_lc2 (g := gBlk X scope tg) (tt := ttBlk X scope []) (wi1 := wiBlk X scope tg1 iter1) (g1 := gBlk X scope tg1) (tt1 := ttBlk X scope []) (te := teBlk X scope elt) hc hN hi ok hv
    (fun s H1 C cl fp => ⟨fun pins s' σ' H' v u Q' I r h => (h s H1 C cl fp).run pins s' u I r⟩) (fun s H1 C cl fp => ⟨fun pins s' σ' H' Q' I h => (h s H1 C cl fp).run pins s' I⟩) (fun s H1 C cl fp => pi_blk s H1 C cl fp)
    (fun s H1 C cl fp => ⟨fun pins s' σ' H' v u Q' I r h => (h s H1 C cl fp).run pins s' u I r⟩) (fun s H1 C cl fp => ⟨fun pins s' σ' H' Q' I h => (h s H1 C cl fp).run pins s' I⟩) (fun s H1 C cl fp => ⟨fun pins s' σ' H' Q' I h => (h s H1 C cl fp).run pins s' I⟩) hs hs1)
    (lc2_walk hw hown hsl hsl1 tgv it1 tgv1 he hz H0 G H σ t Q k)
/-- name = [elt for tg in iter for tg1 in iter1], a list that stands for ever -/
theorem ss_setLc2 {T : Md} {y : Str} {py spos : Pos} {Po : Post} {rest : List Stmt} {scope : Scope} {own : List (Str × Nat)} {vs1 : List Nat} {ys : α → List γ} {g : α → γ → β} (i : Nat) (hc : X.calm = true) (hN : X.N.Nodup) (it : ITv X M tg iter Γ R xs) (ok : BlkOk X.N X.env.scope scope own) (hv : ∀ i ∈ vs1, i ∈ own.map (·.2))
    (hown : ∀ (x : α) (j : Nat), ¬ IsOwn (f x (wipeE Γ (own.map (·.2))))[j]?) (hsl : ∀ j ∈ sl, j ∈ own.map (·.2)) (hsl1 : ∀ j ∈ sl1, j ∈ vs1)
    (tgv : ∀ (s : Shared) (H : Hp) (C : Addr) (cl : List (Str × Addr)) (fp : List Addr) (M : Md), TGv (X.blk s H scope (compEnvC scope cl C X.env) fp) M tg R f sl)
    (it1 : ∀ (s : Shared) (H : Hp) (C : Addr) (cl : List (Str × Addr)) (fp : List Addr) x, x ∈ xs → ITv (X.blk s H scope (compEnvC scope cl C X.env) fp) M tg1 iter1 (f x (wipeE Γ (own.map (·.2)))) R1 (ys x))
    (tgv1 : ∀ (s : Shared) (H : Hp) (C : Addr) (cl : List (Str × Addr)) (fp : List Addr) (M : Md), TGv (X.blk s H scope (compEnvC scope cl C X.env) fp) M tg1 R1 f1 sl1)
    (he : ∀ (s : Shared) (H : Hp) (C : Addr) (cl : List (Str × Addr)) (fp : List Addr) x y, x ∈ xs → y ∈ ys x → EV (X.blk s H scope (compEnvC scope cl C X.env) fp) M elt (f1 y (wipeE (f x (wipeE Γ (own.map (·.2)))) vs1)) S (g x y))
    (hz : (xs.map fun x => (ys x).map (g x)).flatten.length ≤ 16777216) (hr : SSt X M T rest (Γ.set i (.val (rLst S) ((xs.map fun x => (ys x).map (g x)).flatten))) Po) (hil : i < Γ.length := by first | decide | simp) (hy : X.N[i]? = some y := by rfl) (hyl : X.env.scope.names.lookup y = some .local := by rfl)
    (hsw : swapsWith (.ListComp elt [⟨tg, iter, [], 0⟩, ⟨tg1, iter1, [], 0⟩] scope pos) (some (.Name y py)) spos.line X.env = pure true := by rfl) (hs : ∀ x, foldedSetIterable iter X.env x = pure x := by intro _; rfl) (hs1 : ∀ env x, foldedSetIterable iter1 env x = pure x := by intro _ _; rfl) :
    SSt X M T (.Assign [.Name y py] (.ListComp elt [⟨tg, iter, [], 0⟩, ⟨tg1, iter1, [], 0⟩] scope pos) spos :: rest) Γ Po := by
  obtain ⟨wi, hi, hw⟩ := it
  refine ss_consG (M1 := M) (N := fun Γ' => Γ' = Γ.set i (.own S ((xs.map fun x => (ys x).map (g x)).flatten))) (fun G0 H0 G H σ D t s m => of_ps (ps_setLc2 (i := i) (g := gBlk X scope tg) (tt := ttBlk X scope []) (wi1 := wiBlk X scope tg1 iter1) (g1 := gBlk X scope tg1) (tt1 := ttBlk X scope []) (te := teBlk X scope elt) hc hN hy hyl hsw hi ok hv
    (fun s H1 C cl fp => ⟨fun pins s' σ' H' v u Q' I r h => (h s H1 C cl fp).run pins s' u I r⟩) (fun s H1 C cl fp => ⟨fun pins s' σ' H' Q' I h => (h s H1 C cl fp).run pins s' I⟩) (fun s H1 C cl fp => pi_blk s H1 C cl fp)
    (fun s H1 C cl fp => ⟨fun pins s' σ' H' v u Q' I r h => (h s H1 C cl fp).run pins s' u I r⟩) (fun s H1 C cl fp => ⟨fun pins s' σ' H' Q' I h => (h s H1 C cl fp).run pins s' I⟩) (fun s H1 C cl fp => ⟨fun pins s' σ' H' Q' I h => (h s H1 C cl fp).run pins s' I⟩) hs hs1)
    (lc2_walk hw hown hsl hsl1 tgv it1 tgv1 he hz H0 G H σ t _ fun p vs zs G' H' px s' hp' hg hh r => by
      subst px
      exact m.nx _ _ G' H' rfl (t.putOwn (t.step s') i hp' (s.fresh hp') hg hh r) (s.trans s'))) fun Γ' q => ?_
  subst q
  exact ss_freeze i (List.getElem?_set_self hil) (by rw [List.set_set]; exact hr)
end
/-! ### texts put together; the least of pairs -/
def encP (p : Int × Str) : PyData := .tuple [.int p.1, .str p.2]
theorem encP_inj {p q : Int × Str} (h : encP p = encP q) : p = q := by
  unfold encP at h
  injection h with h
  injection h with h1 h2
  injection h1 with h1
  injection h2 with h2 _
  injection h2 with h2
  exact Prod.ext h1 h2
def minPS : List (Int × Str) → Int × Str
  | [] => (0, "")
  | x :: xs => xs.foldl (fun a y => if PySem.W.dataLt (encP y) (encP a) = true then y else a) x
theorem minPS_enc (x : Int × Str) : ∀ xs : List (Int × Str), PySem.W.minD (encP x) (xs.map encP) = encP (minPS (x :: xs)) := by
  intro xs
  show (xs.map encP).foldl (fun a y => if PySem.W.dataLt y a then y else a) (encP x) = encP (xs.foldl (fun a y => if PySem.W.dataLt (encP y) (encP a) = true then y else a) x)
  induction xs generalizing x with
  | nil => rfl
  | cons y r ih =>
    rw [List.map_cons, List.foldl_cons, List.foldl_cons, ← ih]
    congr 1
    split <;> rfl
theorem ltP (p q : Int × Str) : PySem.W.dataLt (encP p) (encP q) = if p.1 = q.1 then (if p.2 = q.2 then false else PySem.W.dataLt (.str p.2) (.str q.2)) else decide (p.1 < q.1) := by
  unfold encP
  rw [PySem.W.dataLt_pair rfl rfl, PySem.W.dataLt_int]
  show (if decide (p.1 = q.1) = true then (if (p.2 == q.2) = true then false else _) else _) = _
  by_cases h1 : p.1 = q.1 <;> by_cases h2 : p.2 = q.2 <;> simp [h1, h2]
theorem minPS_fold : ∀ (xs : List (Int × Str)) (x : Int × Str), (xs.foldl (fun a y => if PySem.W.dataLt (encP y) (encP a) = true then y else a) x ∈ x :: xs) ∧ (xs.foldl (fun a y => if PySem.W.dataLt (encP y) (encP a) = true then y else a) x).1 ≤ x.1 ∧ ∀ y ∈ xs, (xs.foldl (fun a y => if PySem.W.dataLt (encP y) (encP a) = true then y else a) x).1 ≤ y.1
  | [], x => ⟨List.mem_singleton.mpr rfl, Int.le_refl _, fun _ h => by cases h⟩
  | y :: xs, x => by
    rw [List.foldl_cons]
    by_cases h : PySem.W.dataLt (encP y) (encP x) = true
    · rw [if_pos h]
      obtain ⟨h1, h2, h3⟩ := minPS_fold xs y
      have hy : y.1 ≤ x.1 := by
        rw [ltP] at h
        by_cases e : y.1 = x.1
        · omega
        · rw [if_neg e] at h
          have := of_decide_eq_true h
          omega
      refine ⟨?_, by omega, fun z hz => ?_⟩
      · rcases List.mem_cons.mp h1 with e | e
        · rw [e]; simp
        · exact List.mem_cons_of_mem _ (List.mem_cons_of_mem _ e)
      · rcases List.mem_cons.mp hz with e | e
        · rw [e]; exact h2
        · exact h3 z e
    · rw [if_neg h]
      obtain ⟨h1, h2, h3⟩ := minPS_fold xs x
      have hy : x.1 ≤ y.1 := by
        rw [ltP] at h
        by_cases e : y.1 = x.1
        · omega
        · rw [if_neg e] at h
          have : ¬ y.1 < x.1 := fun z => h (decide_eq_true z)
          omega
      refine ⟨?_, h2, fun z hz => ?_⟩
      · rcases List.mem_cons.mp h1 with e | e
        · rw [e]; exact List.mem_cons_self
        · exact List.mem_cons_of_mem _ (List.mem_cons_of_mem _ e)
      · rcases List.mem_cons.mp hz with e | e
        · rw [e]; omega
        · exact h3 z e
theorem minPS_mem {l : List (Int × Str)} (h : l ≠ []) : minPS l ∈ l := by
  cases l with
  | nil => exact absurd rfl h
  | cons x xs => exact (minPS_fold xs x).1
theorem minPS_le {l : List (Int × Str)} : ∀ y ∈ l, (minPS l).1 ≤ y.1 := by
  cases l with
  | nil => exact fun _ h => by cases h
  | cons x xs =>
    intro y hy
    rcases List.mem_cons.mp hy with e | e
    · rw [e]; exact (minPS_fold xs x).2.1
    · exact (minPS_fold xs x).2.2 y e
section
variable {X : Cx} {M N : Md} {Γ : List Ent} {a b e : Expr} {pos p : Pos} {x y : Str} {l : List (Int × Str)} {α : Type} {R : Rp α} {kvs : List (Str × α)}
theorem ev_catS (ha : EV X M a Γ rStr x) (hb : EV X M b Γ rStr y) (hz : x.length + y.length ≤ 1000) : EV X M (.BinOp a .Add b pos) Γ rStr (x ++ y) :=
  ev_op2 (pe_op op_add_str pe_of pe_of) ha hb fun _ _ e1 e2 => by
    subst e1; subst e2
    intro G H v w o r1 r2 Q k
    exact ⟨_, _, r1, r2, by rw [sizeLine_eq]; omega, k _ _ G H rfl (Step.refl o) rfl⟩
theorem alike_ps (l : List (Int × Str)) : PySem.W.AlikeAll (l.map encP) := by
  refine ⟨fun x hx y hy => ?_, fun x hx => ?_⟩
  · obtain ⟨i, _, rfl⟩ := List.mem_map.mp hx
    obtain ⟨j, _, rfl⟩ := List.mem_map.mp hy
    rfl
  · obtain ⟨i, _, rfl⟩ := List.mem_map.mp hx
    exact fun z => nomatch z
theorem depth_ps : ∀ l : List (Int × Str), PyData.depthAll (l.map encP) ≤ 1
  | [] => by decide
  | z :: l => by
    have := depth_ps l
    show max (PyData.depth (encP z)) (PyData.depthAll (l.map encP)) ≤ 1
    have e : PyData.depth (encP z) = 1 := rfl
    omega
theorem hd_encP {q : Int × Str} : HasD (rPair rInt rStr) q (encP q) := hd_pair hd_int hd_str
theorem cr_minPS (hc : X.calm = true) (hu : X.A.units + 64 < cLine) : CallR X (.builtin "min") (fun vs H Q => ∃ (a : Addr) (xs : List V) (l : List (Int × Str)), vs = [V.ref a] ∧ SqL X.K H a xs ∧ DpAll X.K H xs (l.map encP) ∧ l ≠ [] ∧ ∀ (i : Nat) (x : V), xs[i]? = some x → l[i]? = some (minPS l) → Q x H) := by
  intro pins s σ H vs us Q I r h
  obtain ⟨a, xs, l, rfl, hs, hd, hne, q⟩ := h
  obtain ⟨its, rv, hl, _⟩ := I.list hs
  rw [Vals.ref1 r]
  cases l with
  | nil => exact absurd rfl hne
  | cons n t =>
    obtain ⟨as, ra⟩ := Dp.readsAll I ((n :: t).map encP) xs its hd rv
    have dd := depth_ps (n :: t)
    refine PySem.W.min_list_data (I.ok.hd hc) hl.isList (x := encP n) (xs := t.map encP) ra (alike_ps (n :: t)) (by have : PyData.depthAll (encP n :: t.map encP) ≤ 1 := dd; omega) fun i v h' tk bs hv rd hk => ?_
    rw [minPS_enc] at rd
    have hv' : its[i]? = some v := by simpa using hv
    obtain ⟨x, hx, rx⟩ : ∃ x, xs[i]? = some x ∧ RelV x v := by
      have : ∀ {xs : List V} {us : List Value} {i : Nat} {v : Value}, Vals xs us → us[i]? = some v → ∃ x, xs[i]? = some x ∧ RelV x v := by
        intro xs us i v h
        induction h generalizing i with
        | nil => intro e; simp at e
        | cons a _ ih =>
          intro e
          cases i with
          | zero => simp at e; subst e; exact ⟨_, rfl, a⟩
          | succ i => exact ih (by simpa using e)
      exact this rv hv'
    refine ⟨x, H, I.kept hk, rx, q i x hx ?_⟩
    obtain ⟨bs2, rd2, hlt, _⟩ := PySem.W.readsAll_at ra i v hv'
    have hlt' : i < (n :: t).length := by simpa using hlt
    have e1 : ((n :: t).map encP).getD i .none = encP ((n :: t)[i]) := by
      rw [List.getD_eq_getElem?_getD, List.getElem?_map, List.getElem?_eq_getElem hlt']
      rfl
    rw [e1] at rd2
    have := PySem.SeqAt.plain_unique _ _ _ _ _ (show PyData.plain (encP ((n :: t)[i])) = true from rfl) (PySem.W.reads_keeps hk rd2) rd
    rw [List.getElem?_eq_getElem hlt', encP_inj this]
theorem ev_minPS (hm : X.mg "min" = none) (hcalm : X.calm = true) (hu : X.A.units + 64 < cLine) (ha : EV X M e Γ (rLst (rPair rInt rStr)) l) (h0 : l ≠ []) (hg : Gl X "min" := by rfl) (hs : starEach [e] X.env = (false, eval e X.env) :: starEach [] X.env := by rfl) (hpl : (backTo pos (starEach [] X.env)).any (·.1) = false := by rfl) : EV X M (.Call (.Name "min" p) [e] [] pos) Γ (rPair rInt rStr) (minPS l) :=
  ev_B (cr_minPS hcalm hu) hm (by decide +kernel) (ea_cons ha ea_nil hs) (fun _ h => by
    subst h
    intro G H vs o ar Q k
    obtain ⟨v, rfl, a, us, rfl, h2, h3⟩ := args1 ar
    refine ⟨a, us, l, rfl, .inl (rd_up o.gh h2), dpAll_of (fun _ _ => hd_encP) ((rPair rInt rStr).pmono o.gh h3), h0, fun i x hx hl => ?_⟩
    obtain ⟨z, hz, rz⟩ := paired_at' h3 hx
    rw [hl] at hz
    cases hz
    exact k x _ G H rfl (Step.refl o) rz) hg (by decide) (by decide) hs hpl
/-- sorted(d), keys texts, any number of them -/
theorem call_sortedDA (hcalm : X.calm = true) : CallR X (.builtin "sorted") (fun xs H Q => ∃ (a : Addr) (kvs : List (Key × V)) (ks : List Str), xs = [.ref a] ∧ Rd H a (.dK kvs) ∧ kvs.map (·.1) = ks.map Sum.inr ∧
    ∀ ys p, ys.Perm ks → PyProof.Rows.sortedS ys = true → H p = none → Q (.ref p) (upd H p (.lst (ys.map V.str)))) := by
  intro pins s σ H xs us Q I r q
  obtain ⟨a, kvs, ks, ex, hd, hks, q⟩ := q
  subst ex
  obtain ⟨u, eu, rx⟩ := vals1 r
  subst eu
  cases rx
  obtain ⟨z, lo, vs, rel, dd⟩ := dk_rd I.hok hd
  obtain ⟨ep, hat⟩ := dd.dictAt
  have hkeys : vs.map (·.1) = ks.map Sum.inr := rel.keys.symm.trans hks
  have hl : vs.length = ks.length := by
    have e := congrArg List.length hkeys
    rw [List.length_map, List.length_map] at e
    exact e
  have h16 : vs.length ≤ sizeLine := by rw [← rel.length]; exact z
  refine Calls.call_function_entry PyProof.Rows.kind_sorted PyProof.Rows.plain_sorted PyProof.Rows.entry_sorted (PyProof.Rows.args_sorted1 _) ?_
  unfold Builtin.«sorted»
  refine wpAny_bind (m := checkCount "sorted" 1 1 _) (wpAny_pure ?_)
  refine wpAny_bind (PySem.W.kdu_collect (A := X.A.in1) (PySem.W.kdl_dict (knd := mixKind X.prog X.w) (kvs := vs) (ep := ep) lo) (I.ok.hd hcalm) hat h16 fun h' tk acc hk hacc => ?_)
  have hal : acc.toList.length = ks.length := by rw [Array.length_toList, hacc.1, hl]
  have hS : PyProof.Rows.StrsAre acc.toList ks := strs_at hal fun j v e => by
    obtain ⟨k, x, e1, e2⟩ := hacc.2 j v (by rw [← Array.getElem?_toList]; exact e)
    have e3 : (vs.map (·.1))[j]? = some k := by rw [List.getElem?_map, e1]; all_goals rfl
    rw [hkeys, List.getElem?_map] at e3
    cases e4 : ks[j]? with
    | none => rw [e4] at e3; cases e3
    | some y =>
      rw [e4] at e3
      have e5 : Sum.inr y = k := Option.some.inj e3
      subst e5
      obtain ⟨t, ev⟩ := Value.isStrOf_shape (x := y) (v := v) e2
      exact ⟨y, t, rfl, ev⟩
  have I1 : Inv X pins σ H { s with heap := h', toks := tk } := I.kept hk
  have hal2 : acc.toList.length ≤ sizeLine := by rw [hal, ← hl]; exact h16
  refine wpAny_bind (wpAny_newList ?_ hal2)
  have hoL : (h'.push (PyProof.Rows.seqObj "list" acc.toList.toArray 0)).get? h'.objs.size = some (PyProof.Rows.seqObj "list" acc.toList.toArray 0) := Heap.get?_push_size _ rfl
  show wpAny _ _ _ _ _ { s with heap := h'.push (PyProof.Rows.seqObj "list" acc.toList.toArray 0), toks := tk }
  refine wpAny_bind (wpAny_holding (wpAny_call_entry PyProof.Rows.slot_list_sort ⟨_, hoL, rfl⟩ PyProof.Rows.entry_list_sort
    (PyProof.Rows.list_sort_treeKAny PyProof.Rows.strKind_oneLt (s := { s with heap := h'.push (PyProof.Rows.seqObj "list" acc.toList.toArray 0), toks := tk }) hoL hS.keysOf (fun v₁ v₂ rest e => PyProof.Rows.keyKind_strs (by rw [← e]; exact hS)) hal2 fun st' hp hs => ⟨_, rfl, ?_⟩)
    (PyProof.Rows.args_list_sort _)))
  obtain ⟨ys, g1, g2, g3⟩ := PyProof.Rows.sorted_out_str hS hp hs
  obtain ⟨e', he'⟩ := PyProof.Rows.sortedHeap_at (vs := acc.toList) (out := (PyProof.Rows.arrOf st').map (·.2)) hoL
  have hlen : (ys.map V.str).length ≤ sizeLine := by
    rw [List.length_map, g2.length_eq, ← hal]
    exact hal2
  refine wpAny_pure ⟨_, rfl, .ref h'.objs.size, upd H h'.objs.size (.lst (ys.map V.str)), I1.laid (t' := tk) (fun b u e => ?_) (Nat.le_refl _)
    (show ObjOk X.prog X.w _ _ _ (.lst (ys.map V.str)) from ⟨hlen, ((PyProof.Rows.arrOf st').map (·.2)).toList, e', vals_of_strs g1, by rw [Array.toArray_toList]; exact he'⟩), rfl, q ys _ g2 g3 (I1.hok.fresh (Nat.le_refl _))⟩
  have hb : b < h'.objs.size := Heap.lt_size e
  rw [PyProof.Rows.sortedHeap_old (Nat.ne_of_lt hb) (by rw [PyProof.Rows.size_push']; exact Nat.lt_succ_of_lt hb)]
  exact Heap.get?_push_of_some _ e
/-- sorted(d), keys texts: in their sequence -/
theorem ef_sortedDS (hm : X.mg "sorted" = none) (hcalm : X.calm = true) (hb : EV X M b Γ (rDicE knS R) kvs) (hz : kvs.length < 16777216) (hg : Gl X "sorted" := by rfl) (hs : starEach [b] X.env = (false, eval b X.env) :: starEach [] X.env := by rfl) (hpl : (backTo pos (starEach [] X.env)).any (·.1) = false := by rfl) :
    EFp X M (.Call (.Name "sorted" p) [b] [] pos) Γ rStr (fun ys => ys.Perm (kvs.map (·.1)) ∧ PyProof.Rows.sortedS ys = true) :=
  ef_B (call_sortedDA hcalm) hm (by decide +kernel) (ea_cons hb ea_nil hs) (fun _ h => by
    subst h
    intro G H vs o ar Q k
    obtain ⟨v, rfl, q, ob, l, rfl, h3, h4⟩ := args1 ar
    refine ⟨q, l, kvs.map (·.1), rfl, .inr ⟨ob, o.gh _ _ h3⟩, by rw [keys_kn h4, List.map_map]; rfl, fun ys p hp hs hn => ?_⟩
    have hl : ys.length < 16777216 := by rw [hp.length_eq]; simpa using hz
    exact k p _ ys G _ ⟨hp, hs⟩ (Step.own o hn (by show (ys.map V.str).length ≤ sizeLine; rw [sizeLine_eq]; simp; omega)) hn (o.gnone hn) upd_same (strs_paired ys)) hg (by decide) (by decide) hs hpl
end
end RT

/-! RT30: lists put together that stand for ever; the place of a number in a list. -/
namespace RT
open PySem L2
def rCatR : R2 := fun x y H Q => ∃ l b xs zs, x = .ref l ∧ y = .ref b ∧ Rd H l (.lst xs) ∧ Rd H b (.lst zs) ∧ xs.length + zs.length ≤ sizeLine ∧ ∀ p, H p = none → Q (.ref p) (upd H p (.lst (xs ++ zs)))
theorem op_catR {X : Cx} : OpR X (binaryOp .Add) rCatR := by
  intro pins s σ H x y v u Q I rx ry h
  obtain ⟨l, b, xs, zs, rfl, rfl, hH, hB, hz, q⟩ := h
  cases rx
  cases ry
  obtain ⟨z, its, n, r, e⟩ := hH.ok I.hok
  obtain ⟨z2, its2, n2, r2, e2⟩ := hB.ok I.hok
  have hl := r.length
  have hl2 := r2.length
  refine PySem.P.add_list e e2 ?_ (by rw [List.size_toArray, List.size_toArray]; omega)
  have ea : its.toArray ++ its2.toArray = (its ++ its2).toArray := by simp
  rw [ea]
  exact ⟨.ref _, _, I.lnew (t' := s.toks) (r.append r2) (by rw [List.length_append]; omega), rfl, q _ I.fresh⟩
section
variable {X : Cx} {M M1 N : Md} {Γ : List Ent} {a b e : Expr} {α : Type} {R : Rp α} {xs ys : List α} {pos : Pos} {ns : List Int} {n : Int}
theorem ef_catV (ha : EV X M a Γ (rLst R) xs) (hb : EV X M b Γ (rLst R) ys) (hz : xs.length + ys.length ≤ 16777216) : EF X M (.BinOp a .Add b pos) Γ R (xs ++ ys) := fun H0 G H σ t Q k =>
  of_pe (pe_op op_catR pe_of pe_of) (ha H0 G H σ t _ fun v x G1 H1 e1 s1 r1 => hb H0 G1 H1 σ (t.step s1) _ fun w y G2 H2 e2 s2 r2 => by
    subst e1; subst e2
    obtain ⟨q, us, rfl, h1, p1⟩ := r1
    obtain ⟨q2, ws, rfl, h2, p2⟩ := r2
    have S := s1.trans s2
    have o2 := S.okk t.ok
    have l1 := paired_len p1
    have l2 := paired_len p2
    have hzz : us.length + ws.length ≤ sizeLine := by rw [l1, l2, sizeLine_eq]; exact hz
    refine ⟨q, q2, us, ws, rfl, rfl, rd_up s2.gh (same_rd s2.g h1), rd_up s2.gh h2, hzz, fun p3 hp3 => ?_⟩
    have hsz : SzU (.lst (us ++ ws)) := by show (us ++ ws).length ≤ _; rw [List.length_append]; exact hzz
    exact k p3 (us ++ ws) (x ++ y) G2 _ rfl (S.trans (Step.own o2 hp3 hsz)) (S.fresh hp3) (o2.gnone hp3) upd_same (paired_append (R.pmono s2.g p1) p2))
theorem eqV_ints (i j : Int) : eqV (.int i) (.int j) = decide (i = j) := rfl
theorem idx_before {n : Int} : ∀ {ns : List Int} {m : Nat} {i : Int}, m < ns.idxOf n → ns[m]? = some i → i ≠ n
  | [], _, _, _, h => by simp at h
  | x :: ns, m, i, hm, h => by
    rw [List.idxOf_cons] at hm
    cases e : (x == n) with
    | true => rw [e] at hm; exact absurd hm (Nat.not_lt_zero _)
    | false =>
      rw [e] at hm
      cases m with
      | zero =>
        have : x = i := by simpa using h
        rw [← this]
        intro q
        rw [q, beq_self_eq_true] at e
        cases e
      | succ m => exact idx_before (Nat.lt_of_succ_lt_succ (by simpa using hm)) (by simpa using h)
theorem idx_at {n : Int} : ∀ {ns : List Int}, n ∈ ns → ns[ns.idxOf n]? = some n
  | [], h => by cases h
  | x :: ns, h => by
    rw [List.idxOf_cons]
    cases e : (x == n) with
    | true => have := LawfulBEq.eq_of_beq e; subst this; rfl
    | false =>
      rcases List.mem_cons.mp h with z | z
      · rw [z, beq_self_eq_true] at e; cases e
      · exact idx_at z
theorem ev_idxL {apos : Pos} (ha : EV X M a Γ (rLst rInt) ns) (he : EV X M e Γ rInt n) (hn : n ∈ ns) (hbase : attributeBase a "index" X.env (eval a X.env) = eval a X.env := by rfl) (hb : BmOk X e [] apos pos := by exact ⟨rfl, rfl, rfl, rfl⟩) : EV X M (.Call (.Attribute a "index" apos) [e] [] pos) Γ rInt (ns.idxOf n : Nat) := fun H0 G H σ t Q k =>
  of_pe (pe_bm PySem.F.plainAttrs_list PySem.F.slot_list_index PySem.F.type_list_index mt_index pe_of (pa_cons pe_of pa_nil hb.st) hbase hb.few hb.line hb.st hb.pl) (ha H0 G H σ t _ fun v x G1 H1 e1 s1 r1 => by
    subst e1
    obtain ⟨q, us, rfl, h2, h3⟩ := r1
    rw [paired_ints h3] at h2
    refine ⟨.inl ⟨rfl, _, .inl (rd_up s1.gh h2)⟩, he H0 G1 H1 σ (t.step s1) _ fun w y G2 H2 e2 s2 r2 => ?_⟩
    subst e2
    rw [show w = V.int y from r2]
    refine ⟨q, x.map V.int, .int y, x.idxOf y, .int y, rfl, rfl, .inl (rd_up s2.gh (same_rd s2.g h2)), rfl, flat_ints _, ?_, by rw [eqV_ints, decide_eq_true rfl], fun m z' hm hz => ?_, k _ _ G2 H2 rfl (s1.trans s2) rfl⟩
    · rw [List.getElem?_map, idx_at hn]; rfl
    · rw [List.getElem?_map] at hz
      cases e : x[m]? with
      | none => rw [e] at hz; cases hz
      | some i =>
        rw [e] at hz
        cases hz
        rw [eqV_ints]
        exact decide_eq_false (idx_before hm e))
end
end RT

/-! RT31: errors: what is told of them; expressions, statements and defs that may raise. -/
namespace RT
open PySem L2
open PyProof.Rows (envOfC)
/-- an error: its class, its fields -/
structure Er where
  cls : Addr
  fs : List (Str × Vl)
/-- its own dict -/
def ErD (G : Hp) (er : Er) (d : Option Addr) : Prop := (er.fs = [] ∧ d = none) ∨ ∃ (dd : Addr) (vs : List (Str × V)), d = some dd ∧ G dd = some (.xd vs) ∧ ∀ f x, er.fs.lookup f = some x → ∃ v, vs.lookup f = some v ∧ rVl.rel G v x
theorem ErD.mono {G G' : Hp} (e : Same G G') {er : Er} {d : Option Addr} : ErD G er d → ErD G' er d
  | .inl h => .inl h
  | .inr ⟨dd, vs, h1, h2, h3⟩ => .inr ⟨dd, vs, h1, e _ _ h2, fun f x q => let ⟨v, a, b⟩ := h3 f x q; ⟨v, a, rVl.mono e b⟩⟩
def ErOk (G : Hp) (er : Er) (cls : Value) (d : Option Addr) : Prop := cls = .ref er.cls ∧ ErD G er d
theorem ErOk.mono {G G' : Hp} (e : Same G G') {er : Er} {cls : Value} {d : Option Addr} (h : ErOk G er cls d) : ErOk G' er cls d := ⟨h.1, h.2.mono e⟩
/-! ### expressions that may raise: P what is told of the value, Z of the error -/
def EVx (X : Cx) (M N : Md) (e : Expr) (Γ : List Ent) {α : Type} (R : Rp α) (P : α → Prop) (Z : Er → Prop) : Prop :=
  ∀ (W : WX), Takes X W → ∀ (H0 G H : Hp) (σ : St), Stt M H0 Γ σ G H → (∀ er cls d σ' G' H', Z er → ErOk G' er cls d → Step N G H G' H' → W cls d σ' H') →
    ∀ Q : VK, (∀ v x G' H', P x → Step N G H G' H' → R.rel G' v x → Q v H') → tOf X e σ H Q
/-- e raises er -/
abbrev EX (X : Cx) (M : Md) (e : Expr) (Γ : List Ent) (er : Er) : Prop := EVx X M M e Γ rNone (fun _ => False) (fun z => z = er)
/-- arguments, one of which may raise -/
def EAx (X : Cx) (M N : Md) (es : List Expr) (Γ : List Ent) (A : List Ent → Prop) (Z : Er → Prop) : Prop :=
  ∀ (W : WX), Takes X W → ∀ (H0 G H : Hp) (σ : St), Stt M H0 Γ σ G H → (∀ er cls d σ' G' H', Z er → ErOk G' er cls d → Step N G H G' H' → W cls d σ' H') →
    ∀ Q : List V → Hp → Prop, (∀ vs as G' H', A as → Step N G H G' H' → ArgsOk G' vs as → Q vs H') → taOf X es σ H Q
def S1x (X : Cx) (M T : Md) (st : Stmt) (Γ : List Ent) (Po : Post) (Z : Er → Prop) : Prop :=
  ∀ (W : WX), Takes X W → ∀ (G0 H0 G H : Hp) (σ : St) (D : Ends), Stt M H0 Γ σ G H → Step M G0 H0 G H → Meets T G0 H0 Po D → (∀ er cls d σ' G' H', Z er → ErOk G' er cls d → Step T G0 H0 G' H' → W cls d σ' H') → s1Of X st D σ H
def SSx (X : Cx) (M T : Md) (sts : List Stmt) (Γ : List Ent) (Po : Post) (Z : Er → Prop) : Prop :=
  ∀ (W : WX), Takes X W → ∀ (G0 H0 G H : Hp) (σ : St) (D : Ends), Stt M H0 Γ σ G H → Step M G0 H0 G H → Meets T G0 H0 Po D → (∀ er cls d σ' G' H', Z er → ErOk G' er cls d → Step T G0 H0 G' H' → W cls d σ' H') → sOf X sts D σ H
section
variable {X : Cx} {M M1 N T : Md} {Γ Γ' : List Ent} {e a : Expr} {es : List Expr} {α β : Type} {R : Rp α} {S : Rp β} {P : α → Prop} {P2 : β → Prop} {Z Z' : Er → Prop} {st : Stmt} {sts rest sa sb : List Stmt} {Po Po' : Post} {pos : Pos} {A : List Ent → Prop} {Nn : List Ent → Prop}
theorem EVt.x (h : EVt X M N e Γ R P) : EVx X M N e Γ R P Z := fun _ _ H0 G H σ t _ Q k => h H0 G H σ t Q k
theorem EVx.imp (h : EVx X M N e Γ R P Z) {P' : α → Prop} (hp : ∀ x, P x → P' x) (hz : ∀ z, Z z → Z' z) : EVx X M N e Γ R P' Z' := fun W tk H0 G H σ t w Q k =>
  h W tk H0 G H σ t (fun er cls d σ' G' H' z => w er cls d σ' G' H' (hz er z)) Q fun v x G' H' p => k v x G' H' (hp x p)
/-- what surely raises has any value -/
theorem EVx.any (h : EVx X M N e Γ R (fun _ => False) Z) : EVx X M N e Γ S P2 Z := fun W tk H0 G H σ t w Q _ => h W tk H0 G H σ t w Q fun _ _ _ _ p => p.elim
theorem EAt.x (h : EAt X M N es Γ A) : EAx X M N es Γ A Z := fun _ _ H0 G H σ t _ Q k => h H0 G H σ t Q k
/-- the first argument raises -/
theorem eax_head (h : EVx X M N e Γ R (fun _ => False) Z) (hs : starEach (e :: es) X.env = (false, eval e X.env) :: starEach es X.env := by rfl) : EAx X M N (e :: es) Γ A Z := fun W tk H0 G H σ t w Q _ =>
  of_pa (pa_cons pe_of pa_of hs) (h W tk H0 G H σ t w _ fun _ _ _ _ p => p.elim)
/-- a later one does -/
theorem eax_tail (h : EVt X M M1 e Γ R P) (hr : EAx X M1 N es Γ A Z) (hA : ∀ as, ¬ A as) (hs : starEach (e :: es) X.env = (false, eval e X.env) :: starEach es X.env := by rfl) (hF : M.F = M1.F := by first | rfl | assumption) (hF2 : M1.F = N.F := by first | rfl | assumption) : EAx X M N (e :: es) Γ A Z := fun W tk H0 G H σ t w Q _ =>
  of_pa (pa_cons pe_of pa_of hs) (h H0 G H σ t _ fun v x G1 H1 px s1 r1 => hr W tk H0 G1 H1 σ (t.step2 hF s1) (fun er cls d σ' G' H' z o s => w er cls d σ' G' H' z o (s1.trans2 hF2 s)) _ fun vs as G2 H2 a _ _ => (hA as a).elim)
theorem SSt.x (h : SSt X M T sts Γ Po) : SSx X M T sts Γ Po Z := fun _ _ G0 H0 G H σ D t s m _ => h G0 H0 G H σ D t s m
theorem S1t.x (h : S1t X M T st Γ Po) : S1x X M T st Γ Po Z := fun _ _ G0 H0 G H σ D t s m _ => h G0 H0 G H σ D t s m
theorem SSx.imp (h : SSx X M T sts Γ Po Z) (hz : ∀ z, Z z → Z' z) : SSx X M T sts Γ Po Z' := fun W tk G0 H0 G H σ D t s m w => h W tk G0 H0 G H σ D t s m fun er cls d σ' G' H' z => w er cls d σ' G' H' (hz er z)
theorem sx_weak (w : Weak Γ Γ') (h : SSx X M T sts Γ' Po Z) : SSx X M T sts Γ Po Z := fun W tk G0 H0 G H σ D t s m z => h W tk G0 H0 G H σ D (t.weak w) s m z
theorem Step.leZ {Z : Er → Prop} {W : WX} {M T : Md} {G0 H0 : Hp} (l : Le M T) (w : ∀ er cls d σ' G' H', Z er → ErOk G' er cls d → Step T G0 H0 G' H' → W cls d σ' H') : ∀ er cls d σ' G' H', Z er → ErOk G' er cls d → Step M G0 H0 G' H' → W cls d σ' H' := fun er cls d σ' G' H' z o s => w er cls d σ' G' H' z o (s.le l)
theorem sx_consL (hle : Le M1 T) (h1 : S1x X M M1 st Γ { Po with nx := Nn } Z) (h2 : ∀ Γ', Nn Γ' → SSx X M1 T rest Γ' Po Z) : SSx X M T (st :: rest) Γ Po Z := fun W tk G0 H0 G H σ D t s m w =>
  of_pss (pss_cons ps_of pss_of) (h1 W tk G0 H0 G H σ { D with nx := sOf X rest D } t s ⟨fun Γ' σ' G' H' n t' s' => h2 Γ' n W tk G0 H0 G' H' σ' D t' s' m w, (m.le hle).rt, (m.le hle).bk, (m.le hle).ct⟩ (Step.leZ hle w))
theorem sx_cons (h1 : S1x X M M1 st Γ { Po with nx := Nn } Z) (h2 : ∀ Γ', Nn Γ' → SSx X M1 T rest Γ' Po Z) (hle : Le M1 T := by first | exact Le.refl _ | assumption | exact Le.up (by omega)) : SSx X M T (st :: rest) Γ Po Z := sx_consL hle h1 h2
/-- the first statement raises -/
theorem sx_head (h1 : S1x X M T st Γ { nx := fun _ => False } Z) : SSx X M T (st :: rest) Γ Po Z := fun W tk G0 H0 G H σ D t s m w =>
  of_pss (pss_cons ps_of pss_of) (h1 W tk G0 H0 G H σ { D with nx := sOf X rest D } t s ⟨fun _ _ _ _ z => z.elim, fun _ _ _ _ _ z => z.elim, fun _ _ _ _ z => z.elim, fun _ _ _ _ z => z.elim⟩ w)
/-- statements that do nothing but go on, told as before -/
theorem sx_expr0 (he : EVt X M M1 e Γ R P) (hr : SSx X M1 T rest Γ Po Z) (hs : swapsWith e none pos.line X.env = pure false := by rfl) (hF : M.F = M1.F := by first | rfl | assumption) : SSx X M T (.Expr e pos :: rest) Γ Po Z := fun W tk G0 H0 G H σ D t s m w =>
  of_pss (pss_cons ps_of pss_of) (of_ps (ps_expr pe_of hs) (he H0 G H σ t _ fun v x G' H' px s' r => hr W tk G0 H0 G' H' σ D (t.step2 hF s') (s.trans2 hF s') m w))
theorem sx_expr (he : EVx X M T e Γ R (fun _ => False) Z) (hs : swapsWith e none pos.line X.env = pure false := by rfl) (hF : M.F = T.F := by first | rfl | assumption) : SSx X M T (.Expr e pos :: rest) Γ Po Z := fun W tk G0 H0 G H σ D t s m w =>
  of_pss (pss_cons ps_of pss_of) (of_ps (ps_expr pe_of hs) (he W tk H0 G H σ t (fun er cls d σ' G' H' z o s' => w er cls d σ' G' H' z o (s.trans2 hF s')) _ fun _ _ _ _ p => p.elim))
/-- .. that may go on -/
theorem sx_exprM (he : EVx X M M1 e Γ R P Z) (hr : SSx X M1 T rest Γ Po Z) (hle : Le M1 T := by first | exact Le.refl _ | assumption | exact Le.up (by omega)) (hs : swapsWith e none pos.line X.env = pure false := by rfl) (hF : M.F = M1.F := by first | rfl | assumption) : SSx X M T (.Expr e pos :: rest) Γ Po Z := fun W tk G0 H0 G H σ D t s m w =>
  of_pss (pss_cons ps_of pss_of) (of_ps (ps_expr pe_of hs) (he W tk H0 G H σ t (fun er cls d σ' G' H' z o s' => w er cls d σ' G' H' z o ((s.trans2 hF s').le hle)) _ fun v x G' H' px s' r => hr W tk G0 H0 G' H' σ D (t.step2 hF s') (s.trans2 hF s') m w))
theorem sx_ret (he : EVx X M T e Γ R P Z) (hp : ∀ x, P x → Po.rt (.val R x)) (hF : M.F = T.F := by first | rfl | assumption) : SSx X M T (.Return (some e) pos :: rest) Γ Po Z := fun W tk G0 H0 G H σ D t s m w =>
  of_pss (pss_cons ps_of pss_of) (of_ps (ps_ret pe_of) (he W tk H0 G H σ t (fun er cls d σ' G' H' z o s' => w er cls d σ' G' H' z o (s.trans2 hF s')) _ fun v x G' H' px s' r => m.rt R x v G' H' (hp x px) (s.trans2 hF s') r))
/-- name = e -/
theorem sx_setP {y : Str} {py : Pos} (i : Nat) (hN : X.N.Nodup) (he : EVx X M M1 e Γ R P Z) (hp : ∀ x, P x → SSx X M1 T rest (Γ.set i (.val R x)) Po Z) (hle : Le M1 T := by first | exact Le.refl _ | assumption | exact Le.up (by omega)) (hi : X.N[i]? = some y := by rfl) (hx : Loc X.env.scope y := by first | exact Or.inl rfl | exact Or.inr rfl)
    (hs : swapsWith e (some (.Name y py)) pos.line X.env = pure false := by rfl) (hf : X.fn y = true ∨ X.env.scope.names.lookup y = some .local := by first | exact .inl rfl | exact .inr rfl | assumption) (hF : M.F = M1.F := by first | rfl | assumption) : SSx X M T (.Assign [.Name y py] e pos :: rest) Γ Po Z := fun W tk G0 H0 G H σ D t s m w =>
  of_pss (pss_cons ps_of pss_of) (of_ps (ps_set (i := i) hN hi hx pe_of hs hf) (he W tk H0 G H σ t (fun er cls d σ' G' H' z o s' => w er cls d σ' G' H' z o ((s.trans2 hF s').le hle)) _ fun v x G' H' px s' r =>
    hp x px W tk G0 H0 G' H' (σ.set i (some v)) D ((t.step2 hF s').put (fun hl => ⟨v, List.getElem?_set_self (by rw [t.len]; exact hl), r⟩) (fun ho => ho.elim)) (s.trans2 hF s') m w))
theorem sx_set {y : Str} {py : Pos} {x : α} (i : Nat) (hN : X.N.Nodup) (he : EV X M e Γ R x) (hp : SSx X M T rest (Γ.set i (.val R x)) Po Z) (hi : X.N[i]? = some y := by rfl) (hx : Loc X.env.scope y := by first | exact Or.inl rfl | exact Or.inr rfl)
    (hs : swapsWith e (some (.Name y py)) pos.line X.env = pure false := by rfl) (hf : X.fn y = true ∨ X.env.scope.names.lookup y = some .local := by first | exact .inl rfl | exact .inr rfl | assumption) (hle : Le M T := by first | exact Le.refl _ | assumption | exact Le.up (by omega)) : SSx X M T (.Assign [.Name y py] e pos :: rest) Γ Po Z :=
  sx_setP i hN (EVt.x he) (fun _ q => q ▸ hp) hle hi hx hs hf
variable {c : Expr} {b : Bool} {Pb : Bool → Prop}
theorem s1x_if (hc : TVp X M c Γ Pb) (ha : Pb true → SSx X M T sa Γ Po Z) (hb : Pb false → SSx X M T sb Γ Po Z) : S1x X M T (.If c sa sb pos) Γ Po Z := fun W tk G0 H0 G H σ D t s m w =>
  of_ps (ps_if pt_of pss_of pss_of) (hc H0 G H σ t _ fun b G' H' pb s' => by
    cases b with
    | true => rw [if_pos rfl]; exact ha pb W tk G0 H0 G' H' σ D (t.step s') (s.trans s') m w
    | false => rw [if_neg Bool.false_ne_true]; exact hb pb W tk G0 H0 G' H' σ D (t.step s') (s.trans s') m w)
/-- if c: ..; c is not so -/
theorem sx_ifn (hc : TV X M c Γ false) (hr : SSx X M T rest Γ Po Z) (hle : Le M T := by first | exact Le.refl _ | assumption | exact Le.up (by omega)) : SSx X M T (.If c sa [] pos :: rest) Γ Po Z :=
  sx_consL (M1 := M) (Nn := fun Γ' => Γ' = Γ) hle (s1x_if hc (fun h => by cases h) (fun _ => SSt.x (ss_nil rfl))) fun _ q => q ▸ hr
/-- if c: raise ..; c is so -/
theorem sx_ify (hc : TV X M c Γ true) (ha : SSx X M T sa Γ { nx := fun _ => False } Z) : SSx X M T (.If c sa sb pos :: rest) Γ Po Z := sx_head (s1x_if hc (fun _ => ha) (fun h => by cases h))
/-- if c: raise ..; either way -/
theorem sx_ifr (hc : TV X M c Γ b) (ha : b = true → SSx X M M sa Γ { nx := fun _ => False } Z) (hr : b = false → SSx X M T rest Γ Po Z) (hle : Le M T := by first | exact Le.refl _ | assumption | exact Le.up (by omega)) : SSx X M T (.If c sa [] pos :: rest) Γ Po Z :=
  sx_consL (M1 := M) (Nn := fun Γ' => Γ' = Γ ∧ b = false) hle (s1x_if hc (fun h W tk G0 H0 G H σ D t s m w => ha h.symm W tk G0 H0 G H σ D t s ⟨fun _ _ _ _ z => z.elim, fun _ _ _ _ _ z => z.elim, fun _ _ _ _ z => z.elim, fun _ _ _ _ z => z.elim⟩ w) (fun h => SSt.x (ss_nil ⟨rfl, h.symm⟩))) fun _ ⟨q, h⟩ => q ▸ hr h
end
/-! ### loops that may raise -/
section
variable {X : Cx} {M M0 T : Md} {Γ : List Ent} {α : Type} {R : Rp α} {P : List α → Prop} {tg iter : Expr} {pos : Pos} {f : α → List Ent → List Ent} {sl : List Nat} {body rest : List Stmt} {Po : Post} {Z : Er → Prop}
theorem s1x_for (hp : PassesOwn (model X.prog X.w) X.A X.env X.xe) (hc : X.calm = true) (it : ITp X M tg iter Γ R P) (tgv : ∀ M, TGv X M tg R f sl) (W : List α → Nat → List Ent → Prop) (h0 : ∀ xs, P xs → ∃ Γ', Weak Γ Γ' ∧ W xs 0 Γ')
    (hs : ∀ xs i x Γi, P xs → xs.length ≤ 16777216 → xs[i]? = some x → W xs i Γi → SSx X M M body (f x Γi) { nx := W xs (i + 1), ct := W xs (i + 1), bk := Po.nx, rt := Po.rt } Z)
    (hd : ∀ xs Γn, P xs → W xs xs.length Γn → Po.nx Γn) (hf : ∀ x, foldedSetIterable iter X.env x = pure x := by intro _; rfl) : S1x X M M (.For tg iter body [] pos) Γ Po Z := fun Wx tk G0 H0 G H σ D t s m w => by
  obtain ⟨wi, hi, hw⟩ := it
  refine of_ps (ps_for hp hc hi pg_of pss_of hf) (hw H0 G H σ t _ fun J xs G' H' px hz s' tw => ?_)
  obtain ⟨Gd, Y, g1, wk, g2⟩ := tw M
  obtain ⟨Γ', w0, i0⟩ := h0 xs px
  rw [sizeLine_eq] at hz
  refine for_it wk (fun i σ1 H1 => i ≤ xs.length ∧ ∃ Γ1 G1, W xs i Γ1 ∧ Stt M H0 Γ1 σ1 G1 H1 ∧ Step M G0 H0 G1 H1 ∧ Same G' G1) ⟨Nat.zero_le _, Γ', G', i0, (t.step s').weak w0, s.trans s', Same.refl _⟩ (fun i σ1 H1 _ ⟨_, Γ1, G1, _, t1, _, sm⟩ => g1 G1 H1 sm t1.ok.gh) (fun i v σ1 H1 H2 hi hPv hy => ?_) fun σ1 H1 ⟨_, Γ1, G1, i1, t1, s1, _⟩ => m.nx Γ1 σ1 G1 H1 (hd xs Γ1 px i1) t1 s1
  obtain ⟨hile, Γ1, G1, i1, t1, s1, sm⟩ := hPv
  obtain ⟨G2, x, hx, s2, r2⟩ := g2 i H1 v H2 G1 sm t1.ok hy
  refine tgv M H0 G2 H2 σ1 Γ1 v x (t1.step s2) r2 _ fun σ2 t2 _ _ => ?_
  have b0 := s.trans s'
  have ub : ∀ {G3 H3 : Hp}, Step M G' H0 G3 H3 → Step M G0 H0 G3 H3 := fun s3 => s3.unbase b0
  exact hs xs i x Γ1 px hz hx i1 Wx tk G' H0 G2 H2 σ2 _ t2 ((s1.trans s2).base b0.g (sm.trans s2.g)) ⟨fun Γ3 σ3 G3 H3 w3 t3 s3 => ⟨hi, Γ3, G3, w3, t3, ub s3, s3.g⟩, fun R' x' v' G3 H3 r3 s3 => m.rt R' x' v' G3 H3 r3 (ub s3),
    fun Γ3 σ3 G3 H3 n3 t3 s3 => m.nx Γ3 σ3 G3 H3 n3 t3 (ub s3), fun Γ3 σ3 G3 H3 w3 t3 s3 => ⟨hi, Γ3, G3, w3, t3, ub s3, s3.g⟩⟩ fun er cls d σ' G3 H3 z o s3 => w er cls d σ' G3 H3 z o (ub s3)
end
/-! ### defs that may raise -/
/-- of such arguments: the value's or the error's telling -/
abbrev CtrX := Md → Md → List Ent → (Ent → Prop) → (Er → Prop) → Prop
def spX (C : CtrX) : Sp := fun vs H Q E => ∃ (M N : Md) (G : Hp) (as : List Ent) (res : Ent → Prop) (Z : Er → Prop), M.F = N.F ∧ C M N as res Z ∧ Okk M G H ∧ ArgsOk G vs as ∧
  (∀ {α : Type} (R : Rp α) (x : α) (v : V) (G' H' : Hp), res (.val R x) → Step N G H G' H' → R.rel G' v x → Q v H') ∧ ∀ er cls d G' H', Z er → ErOk G' er cls d → Step N G H G' H' → E cls d H'
section
variable {P : Program} {w : World} {K : PySem.W.Frag} {mg : Str → Option Value} {base : Heap}
theorem fnX_mk {x qual : Str} {st : Stmt} {f : Addr} {fd : FuncData} {N ps : List Str} {k : Nat} {C : CtrX} (F : Fun K x qual st f fd) (S : FnScope N ps (defScope st)) (hl : ∀ M M' as res Z, C M M' as res Z → as.length = ps.length)
    (hbody : ∀ (cdv : Value) (A : Around) (outer : List Env) (s : Shared) (H : Hp) (E : XK), Room k (A.deeper (envOfC qual (defScope st) s.heap.objs.size f cdv)) → ∀ M M' as res Z, C M M' as res Z →
      SSx (cxOf (L2.CX P w) P w K mg base N qual (defScope st) f cdv A outer s H E) M M' (defBody st) (as ++ List.replicate (N.length - ps.length) Ent.any) { nx := fun _ => res (.val rNone ()), rt := res } Z) : FnOk P w K mg base (L2.CX P w) (k + 1) f fd ps (spX C) := by
  have hN : ps.length ≤ N.length := by have := congrArg List.length S.pre; rw [List.length_take] at this; omega
  refine F.okX S (fun vs H Q E ⟨M, M', G, as, res, Z, _, hc, _, ha, _⟩ => by rw [ha.1, hl M M' as res Z hc]) fun cdv A outer s H vs Q E hr ⟨M, M', G, as, res, Z, hF, hc, o, ha, hq, he⟩ => ⟨sOf _ _, pss_of, ?_⟩
  have hal := hl M M' as res Z hc
  have t := stt_start (N := N) o ha (by rw [hal]; exact hN)
  rw [hal] at t
  exact hbody cdv A outer s H E hr M M' as res Z hc (fun cls d _ H' => E cls d H') (takes_of rfl rfl rfl rfl) G H G H _ _ t (Step.refl o)
    ⟨fun Γ σ G' H' n t' s' => hq rNone () .non G' H' n s' rfl, fun R x v G' H' p s' r => hq R x v G' H' p s' r, fun _ _ _ _ z => z.elim, fun _ _ _ _ z => z.elim⟩ fun er cls d σ' G' H' z o' s' => he er cls d G' H' z o' s'
end
/-- a def that may raise, as its callers know it -/
structure DefXC (P0 : Program) (w0 : World) (K0 : PySem.W.Frag) (mg0 : Str → Option Value) (base0 : Heap) (x : Str) (k : Nat) (f : Addr) (fd : FuncData) (ps : List Str) (C : CtrX) : Prop where
  ok : FnOk P0 w0 K0 mg0 base0 (L2.CX P0 w0) k f fd ps (spX C)
  mg : mg0 x = some (.ref f)
  kp : PySem.W.keepIn K0 (.ref f) = true
  bd : Binds K0 fd ps []
abbrev DefX (X : Cx) (x : Str) (k : Nat) (f : Addr) (fd : FuncData) (ps : List Str) (C : CtrX) : Prop := DefXC X.prog X.w X.K X.mg X.base x k f fd ps C
section
variable {X : Cx} {M M1 N : Md} {Γ : List Ent} {x : Str} {k : Nat} {f : Addr} {fd : FuncData} {ps : List Str} {C : CtrX} {e : Expr} {es : List Expr} {p pos : Pos} {A : List Ent → Prop} {α : Type} {R : Rp α} {P : α → Prop} {Z : Er → Prop}
theorem evx_callM (D : DefX X x k f fd ps C) (hr : Room k X.A) (ha : EAt X M M1 (e :: es) Γ A) (hc : ∀ as, A as → ∃ res Z', C M1 N as res Z' ∧ (∀ u, res u → ∃ x, P x ∧ u = .val R x) ∧ ∀ z, Z' z → Z z) (hF : M.F = M1.F := by first | rfl | assumption) (hF2 : M1.F = N.F := by first | rfl | assumption) (hg : Gl X x := by rfl)
    (hdb : (x == ("__debug__" : Str)) = false := by decide) (he : starEach (e :: es) X.env = (false, eval e X.env) :: starEach es X.env := by rfl) (hpl : (backTo pos (starEach es X.env)).any (·.1) = false := by rfl) :
    EVx X M N (.Call (.Name x p) (e :: es) [] pos) Γ R P Z := fun W tk H0 G H σ t w Q k' =>
  of_pe (pe_callS D.ok hr hg D.mg D.kp D.bd (fun σ => passAt tk σ) pa_of hdb he hpl) (ha H0 G H σ t _ fun vs as G1 H1 hA s ar => by
    obtain ⟨res, Z', h1, h2, h3⟩ := hc as hA
    refine ⟨M1, N, G1, as, res, Z', hF2, h1, s.okk2 hF t.ok, ar, fun R' x' v G' H' hr' s' r => ?_, fun er cls d G' H' z o s' => w er cls d σ G' H' (h3 er z) o (s.trans2 hF2 s')⟩
    obtain ⟨x, px, ex⟩ := h2 _ hr'
    cases ex
    exact k' v x G' H' px (s.trans2 hF2 s') r)
/-- a call that raises er -/
theorem ex_call {as : List Ent} {er : Er} (D : DefX X x k f fd ps C) (hr : Room k X.A) (ha : EA X M (e :: es) Γ as) (hc : C M M as (fun _ => False) (fun z => z = er)) (hg : Gl X x := by rfl)
    (hdb : (x == ("__debug__" : Str)) = false := by decide) (he : starEach (e :: es) X.env = (false, eval e X.env) :: starEach es X.env := by rfl) (hpl : (backTo pos (starEach es X.env)).any (·.1) = false := by rfl) :
    EX X M (.Call (.Name x p) (e :: es) [] pos) Γ er := evx_callM D hr ha (fun as' q => ⟨_, _, q ▸ hc, fun _ z => z.elim, fun _ z => z⟩) rfl rfl hg hdb he hpl
/-- an argument raises -/
theorem evx_callA {g : Addr} {gd : FuncData} {CT : CXT} {sp : Sp} {E : XK} (F : FnOk X.prog X.w X.K X.mg X.base CT k g gd ps sp) (hr : Room k X.A) (hm : X.mg x = some (.ref g)) (hk : PySem.W.keepIn X.K (.ref g) = true) (hb : Binds X.K gd ps []) (hE : Passes CT X E) (ha : EAx X M N (e :: es) Γ (fun _ => False) Z) (hg : Gl X x := by rfl)
    (hdb : (x == ("__debug__" : Str)) = false := by decide) (he : starEach (e :: es) X.env = (false, eval e X.env) :: starEach es X.env := by rfl) (hpl : (backTo pos (starEach es X.env)).any (·.1) = false := by rfl) :
    EVx X M N (.Call (.Name x p) (e :: es) [] pos) Γ R (fun _ => False) Z := fun W tk H0 G H σ t w Q k' =>
  of_pe (pe_call F hr hg hm hk hb .nil hE pa_of hdb he hpl) (ha W tk H0 G H σ t w _ fun _ _ _ _ z => z.elim)
theorem ex_callA {Ct : Ctr} {er : Er} (D : Def X x k f fd ps Ct) (hr : Room k X.A) (ha : EAx X M M (e :: es) Γ (fun _ => False) (fun z => z = er)) (hg : Gl X x := by rfl)
    (hdb : (x == ("__debug__" : Str)) = false := by decide) (he : starEach (e :: es) X.env = (false, eval e X.env) :: starEach es X.env := by rfl) (hpl : (backTo pos (starEach es X.env)).any (·.1) = false := by rfl) :
    EX X M (.Call (.Name x p) (e :: es) [] pos) Γ er := evx_callA D.ok hr D.mg D.kp D.bd pass0 ha hg hdb he hpl
end
/-! ### methods that may raise -/
structure MthXC (P0 : Program) (w0 : World) (K0 : PySem.W.Frag) (mg0 : Str → Option Value) (base0 : Heap) (C : Addr) (m : Str) (k : Nat) (fd : FuncData) (ps : List Str) (Ct : CtrX) : Prop where
  ex : ∃ g, Meth K0 C m g ∧ FnOk P0 w0 K0 mg0 base0 (L2.CX P0 w0) k g fd ps (spX Ct)
  bd : Binds K0 fd ps []
abbrev MthX (X : Cx) (C : Addr) (m : Str) (k : Nat) (fd : FuncData) (ps : List Str) (Ct : CtrX) : Prop := MthXC X.prog X.w X.K X.mg X.base C m k fd ps Ct
/-- a wish that asks nothing of the slots -/
def EW (W : WX) : XK := fun cls d H => ∀ σ, W cls d σ H
theorem passW {X : Cx} {W : WX} (tk : Takes X W) : Passes (L2.CX X.prog X.w) X (EW W) := passes_call tk fun _ _ σ _ h => h σ
section
variable {X : Cx} {M M1 N : Md} {Γ : List Ent} {o e : Expr} {α β : Type} {S : Rp β} {x : α} {P2 : β → Prop} {pos p apos : Pos} {es : List Expr} {as : List Ent} {A : List Ent → Prop} {nm m : Str} {C : Addr} {φ : α → List (Str × Fe)} {k : Nat} {fd : FuncData} {ps : List Str} {Ct : CtrX} {Z : Er → Prop} {er : Er}
theorem evx_methM {pl : Sem Bool} (ha : EV X M o Γ (rObj C φ) x) (c : Cls X.K C) (D : MthX X C m k fd ps Ct) (hr : Room k X.A) (hn : (φ x).lookup m = none) (hes : EAp X M (e :: es) Γ A) (hc : ∀ as, A as → ∃ res Z', Ct M N (.val (rObj C φ) x :: as) res Z' ∧ (∀ u, res u → ∃ y, P2 y ∧ u = .val S y) ∧ ∀ z, Z' z → Z z) (hF : M.F = N.F := by first | rfl | assumption)
    (hst : starEach (e :: es) X.env = (false, eval e X.env) :: starEach es X.env := by rfl) (hpl : (backTo pos (starEach es X.env)).any (·.1) = false := by rfl)
    (ht : eval (.Call (.Attribute o m apos) (e :: es) [] pos) X.env = (do
      let ov ← eval o X.env
      standAt apos.atName
      let (f, first) ← holding [ov] (getMethod ov m pl)
      callWith pos f first (backTo pos (starEach (e :: es) X.env)) (backToKw pos (keywordEach [] X.env))) := by rfl) : EVx X M N (.Call (.Attribute o m apos) (e :: es) [] pos) Γ S P2 Z := fun W tk H0 G H σ t w Q k' => by
  obtain ⟨g, hm, F⟩ := D.ex
  refine of_pe (pe_meth pe_of c hm F hr D.bd .nil (passW tk) pa_of hst hpl ht) (ha H0 G H σ t _ fun v x' G' H' ex s r => ?_)
  subst ex
  obtain ⟨a, dx, vs, rfl, h2, h3⟩ := id r
  refine ⟨a, dx, vs, rfl, s.gh _ _ h2, fs_none h3 hn, hes H0 G' H' σ (t.step s) _ fun ws as G2 H2 hA s2 ar => ?_⟩
  obtain ⟨res, Z', h4, h5, h6⟩ := hc as hA
  rw [List.append_nil]
  refine ⟨M, N, G2, _, res, Z', hF, h4, (s.trans s2).okk t.ok, argsOk_cons (e := .val (rObj C φ) x') ((rObj C φ).mono s2.g r) ar, fun R' y v G3 H3 hr' s3 r3 => ?_, fun er cls d G3 H3 z o3 s3 σ' => w er cls d σ' G3 H3 (h6 er z) o3 ((s.trans s2).trans2 hF s3)⟩
  obtain ⟨y', py, ey⟩ := h5 _ hr'
  cases ey
  exact k' v _ G3 H3 py ((s.trans s2).trans2 hF s3) r3
/-- o.m(..) raises er -/
theorem ex_meth {pl : Sem Bool} (ha : EV X M o Γ (rObj C φ) x) (c : Cls X.K C) (D : MthX X C m k fd ps Ct) (hr : Room k X.A) (hn : (φ x).lookup m = none) (hes : EA X M (e :: es) Γ as) (hc : Ct M M (.val (rObj C φ) x :: as) (fun _ => False) (fun z => z = er))
    (hst : starEach (e :: es) X.env = (false, eval e X.env) :: starEach es X.env := by rfl) (hpl : (backTo pos (starEach es X.env)).any (·.1) = false := by rfl)
    (ht : eval (.Call (.Attribute o m apos) (e :: es) [] pos) X.env = (do
      let ov ← eval o X.env
      standAt apos.atName
      let (f, first) ← holding [ov] (getMethod ov m pl)
      callWith pos f first (backTo pos (starEach (e :: es) X.env)) (backToKw pos (keywordEach [] X.env))) := by rfl) : EX X M (.Call (.Attribute o m apos) (e :: es) [] pos) Γ er :=
  evx_methM ha c D hr hn hes (fun as' q => ⟨_, _, q ▸ hc, fun _ z => z.elim, fun _ z => z⟩) rfl hst hpl ht
/-! ### classes whose __init__ may raise -/
abbrev CtiX := Md → Md → List Ent → (Er → Prop) → Prop
/-- __init__ raises: of the instance nothing is told -/
def spIX (C : Addr) (Ci : CtiX) : Sp := fun vs H _ E => ∃ (M N : Md) (G H1 : Hp) (x dx : Addr) (ws : List V) (as : List Ent) (Z : Er → Prop), M.F = N.F ∧ vs = .ref x :: ws ∧ H1 x = none ∧ H1 dx = none ∧ dx ≠ x ∧
  H = upd (upd H1 dx (.own x)) x (.ins C dx []) ∧ Okk M G H1 ∧ ArgsOk G ws as ∧ Ci M N as Z ∧ ∀ er cls d G' H', Z er → ErOk G' er cls d → Step N G H1 G' H' → E cls d H'
structure MkrXC (P0 : Program) (w0 : World) (K0 : PySem.W.Frag) (mg0 : Str → Option Value) (base0 : Heap) (nm : Str) (C : Addr) (k : Nat) (fd : FuncData) (ps : List Str) (Ci : CtiX) : Prop where
  ex : ∃ fi, Mk K0 C fi ∧ FnOk P0 w0 K0 mg0 base0 (L2.CX P0 w0) k fi fd ps (spIX C Ci)
  mg : mg0 nm = some (.ref C)
  bd : Binds K0 fd ps []
abbrev MkrX (X : Cx) (nm : Str) (C : Addr) (k : Nat) (fd : FuncData) (ps : List Str) (Ci : CtiX) : Prop := MkrXC X.prog X.w X.K X.mg X.base nm C k fd ps Ci
theorem evx_make {Ci : CtiX} (D : MkrX X nm C k fd ps Ci) (hr : Room (k + 1) X.A) (hes : EAt X M M1 (e :: es) Γ A) (hc : ∀ as, A as → ∃ Z', Ci M1 N as Z' ∧ ∀ z, Z' z → Z z) (hF : M.F = M1.F := by first | rfl | assumption) (hF2 : M1.F = N.F := by first | rfl | assumption) (hg : Gl X nm := by rfl) (hdb : (nm == ("__debug__" : Str)) = false := by decide) (he : starEach (e :: es) X.env = (false, eval e X.env) :: starEach es X.env := by rfl) (hpl : (backTo pos (starEach es X.env)).any (·.1) = false := by rfl) :
    EVx X M N (.Call (.Name nm p) (e :: es) [] pos) Γ S (fun _ => False) Z := fun W tk H0 G H σ t w Q _ => by
  obtain ⟨fi, Mk', F⟩ := D.ex
  refine of_pe (pe_make Mk' F hr hg D.mg D.bd .nil (passW tk) pa_of hdb he hpl) (hes H0 G H σ t _ fun vs as G' H' hA s ar => ?_)
  intro x dx nx ndx nex
  obtain ⟨Z', h1, h2⟩ := hc as hA
  exact ⟨M1, N, G', H', x, dx, vs, as, Z', hF2, by rw [List.append_nil], nx, ndx, nex, rfl, s.okk2 hF t.ok, ar, h1, fun er cls d G3 H3 z o3 s3 σ' => w er cls d σ' G3 H3 (h2 er z) o3 (s.trans2 hF2 s3)⟩
theorem ex_make {Ci : CtiX} (D : MkrX X nm C k fd ps Ci) (hr : Room (k + 1) X.A) (hes : EA X M (e :: es) Γ as) (hc : Ci M M as (fun z => z = er)) (hg : Gl X nm := by rfl) (hdb : (nm == ("__debug__" : Str)) = false := by decide) (he : starEach (e :: es) X.env = (false, eval e X.env) :: starEach es X.env := by rfl) (hpl : (backTo pos (starEach es X.env)).any (·.1) = false := by rfl) :
    EX X M (.Call (.Name nm p) (e :: es) [] pos) Γ er := evx_make D hr hes (fun as' q => ⟨_, q ▸ hc, fun _ z => z⟩) rfl rfl hg hdb he hpl
end
/-! ### raise -/
/-- what the written part says of an error class without own __init__ -/
structure ErC0 (K : PySem.W.Frag) (C : Addr) : Prop where
  x : PySem.W.excIn K C [.type "ValueError", .type "Exception", .type "BaseException", .type "object"] "ValueError.__new__" = true
  kp : PySem.W.keepIn K (.ref C) = true
  sb : PySem.W.subIn K (.ref C) (.type "BaseException") = some true
  ty : PySem.W.typeIn K (.ref C) = some (.type "type")
section
variable {X : Cx} {M T : Md} {Γ : List Ent} {rest : List Stmt} {Po : Post} {Z : Er → Prop} {x m : Str} {C : Addr} {j : Nat} {p p2 pos pos2 : Pos}
/-- raise X('..') -/
theorem sx_raise0 (hc : X.calm = true) (K : ErC0 X.K C) (gC : X.mg x = some (.ref C)) (hz : Z ⟨C, []⟩) (hg : Gl X x := by rfl) (hdb : (x == ("__debug__" : Str)) = false := by decide) (hle : Le M T := by first | exact Le.refl _ | assumption | exact Le.up (by omega)) :
    SSx X M T (.Raise (some (.Call (.Name x p) [.Constant (.str m) j p2] [] pos)) none pos2 :: rest) Γ Po Z := fun W tk G0 H0 G H σ D t s _ w =>
  of_pss (pss_cons ps_of pss_of) (of_ps (ps_raise hc tk (pmk_own PySem.F.excBase_ValueError K.x gC K.kp (raises_own K.sb K.ty) hg hdb)) (w ⟨C, []⟩ (.ref C) none σ G H hz ⟨rfl, .inl ⟨rfl, rfl⟩⟩ (s.le hle)))
end
end RT

/-! RT32: errors as values: isinstance, attributes; errors with an own __init__ made. -/
namespace RTK
open PySem PySem.W PySem.Calls PyProof.Rows
section
variable {prog : Program} {w : World} {A : Around} {E : Value → Shared → Prop} {s : Shared} {K : Frag} {x D : Addr} {ox : Obj} {od : Option Obj}
/-- e.__class__ of an error, with or without a dict of its own -/
theorem err_class {Q : Option Value → Shared → Prop} (C : L2.ExcC K D) (X : K.In s.heap) (I : InstAt s.heap x ox D od) (h : Q (some (.ref D)) { s with toks := s.toks + 1 }) : wpAny (model prog w) A (getAttr? (.ref x) "__class__") Q E s := by
  have hc : (clsIn K D).isSome = true := by
    obtain ⟨cd, e, _⟩ := any_some C.hd
    rw [e]; rfl
  obtain ⟨cd, hcd⟩ := Option.isSome_iff_exists.mp hc
  have hf : findObj K D od "__class__" = some (.bind (.builtin "getset_descriptor.__get__") (.builtin "object.__class__")) := by
    unfold findObj; rw [hcd, Option.bind_some, C.ha, Option.bind_some]
    simp [C.hn, C.ht]
  obtain ⟨hp, g, d, t, os⟩ := s
  have T0 := I.type (M := model prog w)
  have T3 := looks_find (M := model prog w) X I hf
  have isB : Looks (model prog w) hp (isInstance (.ref x) (.type "BaseException")) true := T0.andThen (looks_subIn X C.hs)
  unfold getAttr? getAttrBy? getAttrBy
  refine wpAny_bind (wpAny_mkText (wpAny_bind (wpAny_attempt (wpAny_holding (wpAny_bind (T0.at (wpAny_bind ((looks_findIn X C.hg).at ?_))))))))
  have off : (onTheHeap (Value.ref D) && Value.builtin "BaseException.__getattribute__" == Value.builtin "object.__getattribute__") = false := by
    rw [show (Value.builtin "BaseException.__getattribute__" == Value.builtin "object.__getattribute__") = false from by decide +kernel]; rfl
  show wpAny _ _ (ite ((onTheHeap (Value.ref D) && Value.builtin "BaseException.__getattribute__" == Value.builtin "object.__getattribute__") = true) _ _) _ _ _
  rw [if_neg (by rw [off]; exact Bool.false_ne_true)]
  unfold getAttrByItsOwn hookBefore
  refine wpAny_bind ?_; rw [if_pos (show onTheHeap (Value.ref D) = true from rfl)]
  refine (looks_findIn X C.hk).at ?_; refine wpAny_bind (wpAny_attempt (wpAny_holding ?_))
  unfold callGetattribute
  rw [show (false && onTheHeap (Value.builtin "BaseException.__getattribute__")) = false from rfl, if_neg Bool.false_ne_true]
  unfold boundAndCalled
  rw [PySem.F.excAttr_ValueError.ga.bind (.ref x)]; refine wpAny_bind (wpAny_pure ?_)
  show wpAny _ _ (call (.builtin "BaseException.__getattribute__") [.ref x, .str "__class__" t]) _ _ _
  refine wpAny_call (codeAny_call_builtin PySem.F.excAttr_ValueError.ga.plain PySem.F.entry_bexc_ga (@check_slot (model prog w) _ _ ⟨hp, g, d, t + 1, os⟩ "BaseException.__getattribute__" "BaseException" "__getattribute__" (.ref x) [.str "__class__" t] [] _ (by decide +kernel) (by decide +kernel) isB (PySem.F.args_bexc_ga (.ref x) (.str "__class__" t)) ?_))
  unfold Builtin.«object.__getattribute__»
  refine wpAny_bind (wpAny_of_eq (a := ((Value.ref x : Value), [Value.str "__class__" t])) (by first | rfl | (simp only [slotArgs]; rfl)) (wpAny_bind (wpAny_pure (wpAny_bind (T0.at (wpAny_bind (T3.at ?_)))))))
  show wpAny _ _ (holding [Value.builtin "object.__class__"] (call (.builtin "getset_descriptor.__get__") [.builtin "object.__class__", .ref x, .ref D]) >>= ret) _ _ _
  refine wpAny_bind (wpAny_holding (wpAny_call (class_get (s := ⟨hp, g, d, t + 1, os⟩) (ox := ox) (od := od) X I C.hm (wpAny_pure ?_))))
  show wpAny _ _ (handedOut (.ref D)) _ _ _
  rw [handedOut_of (v := .ref D) rfl]
  first
    | exact wpAny_pure (wpAny_pure h)
    | exact wpAny_pure h
    | exact wpAny_pure (wpAny_bind (wpAny_pure (wpAny_pure h)))
theorem err_kit (C : L2.ExcC K D) : KitX K (.ref x) (.ref D) (fun h => InstAt h x ox D od) := by
  obtain ⟨cdD, hcD, _⟩ := any_some C.hd
  obtain ⟨c', d', sl', ho⟩ : ∃ c' d' sl', K.lookup D = some ⟨c', d', .cls cdD, sl'⟩ := by
    unfold clsIn at hcD; split at hcD
    · rename_i c' d' cd' sl' ho
      cases hcD; exact ⟨_, _, _, ho⟩
    · cases hcD
  refine ⟨fun _ _ _ I => I.type, fun _ _ X _ A' Q' E' s' k q => ?_, fun h tp dd its n sl X htp => Bool.eq_false_iff.mpr fun q => ?_, fun X I k => err_class C X I k⟩
  · unfold isType loadHead; exact wpAny_bind (wpAny_loadPart (k _ _ (X _ _ ho)) (wpAny_pure q))
  · obtain rfl : D = tp := Value.ref.inj (beq_iff_eq.mp q)
    have z := (X _ _ ho).symm.trans htp
    cases z
end
end RTK
namespace RT
open PySem L2
open PyProof.Rows (envOfC)
/-- at a: an error of the class at C whose own dict is d -/
def exv (C : Addr) (d : Option Addr) (a : Addr) : HO := .ext fun h => ∃ (oe : Obj) (vs : Array Value), h.get? a = some oe ∧ Zc (.ref C) d oe ∧ oe.data = .fields vs
theorem exv_ok {P : Program} {w : World} {H : Hp} {h : Heap} {a C : Addr} {d : Option Addr} {oe : Obj} {vs : Array Value} (e : h.get? a = some oe) (z : Zc (.ref C) d oe) (f : oe.data = .fields vs) : ObjOk P w H h a (exv C d a) :=
  ⟨⟨oe, vs, e, z, f⟩, ⟨oe, e⟩, fun _ _ ⟨o, v, q, r⟩ k => ⟨o, v, k o q, r⟩⟩
def rErr : Rp Er := ⟨fun G v er => ∃ a d, v = .ref a ∧ G a = some (exv er.cls d a) ∧ ErD G er d, fun e ⟨a, d, h1, h2, h3⟩ => ⟨a, d, h1, e _ _ h2, h3.mono e⟩⟩
section
variable {X : Cx} {pins : List (Addr × Obj)} {σ : St} {H : Hp} {s : Shared}
/-- the error as the library sees it -/
theorem err_at {a C : Addr} {d : Option Addr} (I : Inv X pins σ H s) (e : H a = some (exv C d a)) (hd : d = none ∨ ∃ dd fs, d = some dd ∧ H dd = some (.xd fs)) : ∃ (oe : Obj) (od : Option Obj), PySem.W.InstAt s.heap a oe C od ∧
    ∀ dd fs, d = some dd → H dd = some (.xd fs) → ∃ (o : Obj) (mA : Str → Option Value), od = some o ∧ (∀ f, PySem.W.lookIn f o = some (mA f)) ∧ ∀ f, RelO (fs.lookup f) (mA f) := by
  obtain ⟨⟨oe, vs, h1, hz, hf⟩, _, _⟩ := I.hok a _ e
  have nc : PySem.W.notCls oe = true := by unfold PySem.W.notCls; rw [hf] <;> rfl
  rcases hd with rfl | ⟨dd, fs, rfl, h2⟩
  · exact ⟨oe, none, ⟨h1, hz.1, nc, by rw [hz.2]; trivial⟩, fun _ _ z => nomatch z⟩
  · obtain ⟨mA, hns, hr⟩ := (show ObjOk X.prog X.w H s.heap dd (.xd fs) from I.hok dd _ h2)
    obtain ⟨o, ho, hl⟩ := lookIn_ns hns
    refine ⟨oe, some o, ⟨h1, hz.1, nc, by rw [hz.2]; exact ho⟩, fun dd' fs' e1 e2 => ?_⟩
    cases e1
    rw [h2] at e2; cases e2
    exact ⟨o, mA, rfl, hl, hr⟩
theorem ErD.dict {G H : Hp} {er : Er} {d : Option Addr} (h : ErD G er d) (e : Same G H) : d = none ∨ ∃ dd fs, d = some dd ∧ H dd = some (.xd fs) := by
  rcases h with ⟨_, h⟩ | ⟨dd, vs, h1, h2, _⟩
  · exact .inl h
  · exact .inr ⟨dd, vs, h1, e _ _ h2⟩
def rIsErr (K : PySem.W.Frag) : List V → Hp → VK → Prop := fun xs H Q => ∃ (a C : Addr) (d : Option Addr) (c : V) (cv : Value) (b : Bool), xs = [.ref a, c] ∧ H a = some (exv C d a) ∧ (d = none ∨ ∃ dd fs, d = some dd ∧ H dd = some (.xd fs)) ∧ ExcC K C ∧ ClsV c cv ∧ PySem.W.kitOne K (.ref C) cv = some b ∧ Q (.bl b) H
theorem call_isErr : CallR X (.builtin "isinstance") (rIsErr X.K) := by
  intro pins s σ H xs us Q I r h
  obtain ⟨a, C, d, c, cv, b, rfl, e, hd, T, k, kit, q⟩ := h
  cases r with
  | cons rx rr =>
    cases rr with
    | cons rt rr =>
      cases rr
      cases rx
      have ec := k.eq rt
      subst ec
      obtain ⟨oe, od, J, _⟩ := err_at I e hd
      exact PySem.W.kia_one (RTK.err_kit T) I.kIn J kit (fun z => nomatch z) fun tk => ⟨.bl b, H, I.tok tk, rfl, q⟩
def rIsErrT (K : PySem.W.Frag) : List V → Hp → VK → Prop := fun xs H Q => ∃ (a tp C : Addr) (d : Option Addr) (cs : List V) (us : List Value) (b : Bool), xs = [.ref a, .ref tp] ∧ H tp = some (.tup cs) ∧ Paired ClsV cs us ∧ H a = some (exv C d a) ∧ (d = none ∨ ∃ dd fs, d = some dd ∧ H dd = some (.xd fs)) ∧ ExcC K C ∧ PySem.W.kitAny K (.ref C) us = some b ∧ Q (.bl b) H
theorem call_isErrT : CallR X (.builtin "isinstance") (rIsErrT X.K) := by
  intro pins s σ H xs us Q I r h
  obtain ⟨a, tp, C, d, cs, ws, b, rfl, hT, k, e, hd, T, kit, q⟩ := h
  cases r with
  | cons rx rr =>
    cases rr with
    | cons rt rr =>
      cases rr
      cases rx
      cases rt
      obtain ⟨oe, od, J, _⟩ := err_at I e hd
      obtain ⟨_, its, rv, o, h1, h2, n, h3⟩ := (show ObjOk X.prog X.w H s.heap tp (.tup cs) from I.hok tp _ hT)
      have e3 := ClsV.all k rv
      subst e3
      obtain ⟨oc, od', dt, sl⟩ := o
      simp only at h2 h3
      subst h2 h3
      exact PySem.W.kia_tup (RTK.err_kit T) I.kIn J h1 kit (fun z => nomatch z) fun tk => ⟨.bl b, H, I.tok tk, rfl, q⟩
/-- e.f, e an error -/
theorem pe_errF {e : Expr} {te : TE} {pos : Pos} {n : Str} (he : PE X e te) (hb : attributeBase e n X.env (eval e X.env) = eval e X.env := by rfl) :
    PE X (.Attribute e n pos) (fun σ H Q => te σ H fun x H1 => ∃ a C dd fs v, x = .ref a ∧ H1 a = some (exv C (some dd) a) ∧ H1 dd = some (.xd fs) ∧ XfC X.K C ∧ PySem.W.findIn X.K (.ref C) n = some none ∧ fs.lookup n = some v ∧ Q v H1) := by
  refine ⟨fun pins s σ H Q I h => attr_of hb (thn (he.run pins s σ H _ I h) fun u s1 hh => ?_)⟩
  obtain ⟨x, H1, I1, rx, a, C, dd, fs, v, rfl, e1, e2, T, hno, l, q⟩ := hh
  cases rx
  obtain ⟨oe, od, J, hl⟩ := err_at I1 e1 (.inr ⟨dd, fs, rfl, e2⟩)
  obtain ⟨o, mA, rfl, hk, hr⟩ := hl dd fs rfl e2
  obtain ⟨u, hu, ru⟩ := RelO.some_of (v := v) (o := mA n) (by rw [← l]; exact hr n)
  exact HandSPX.exc_get I1.kIn J T.ga T.gg T.exC (PySem.W.findObj_own T.hdC hno rfl (by rw [hk, hu])) (handed_of ru) ⟨v, H1, I1.tok _, ru, q⟩
end
section
variable {X : Cx} {M N : Md} {Γ : List Ent} {a c e : Expr} {er : Er} {bb : Bool} {pos p : Pos} {P : Er → Prop}
/-- isinstance(e, c), e an error -/
theorem ev_isiE {cv : V} {u : Value} (hm : X.mg "isinstance" = none) (ha : EV X M a Γ rErr er) (T : ExcC X.K er.cls) (hk : PE X c (tC cv)) (k : ClsV cv u) (kit : PySem.W.kitOne X.K (.ref er.cls) u = some bb) (hg : Gl X "isinstance" := by rfl) (hs : starEach [a, c] X.env = (false, eval a X.env) :: starEach [c] X.env := by rfl) (hs2 : starEach [c] X.env = (false, eval c X.env) :: starEach [] X.env := by rfl)
    (hpl : (backTo pos (starEach [c] X.env)).any (·.1) = false := by rfl) : EV X M (.Call (.Name "isinstance" p) [a, c] [] pos) Γ rBool bb :=
  ev_B call_isErr hm (by decide +kernel) (ea_cons ha (ea_cons (ev_cls hk) ea_nil hs2) hs) (fun as q G H vs o r Q k' => by
    subst q
    obtain ⟨v, w, rfl, h1, h2⟩ := args2 r
    obtain ⟨b, d, rfl, h3, h4⟩ := h1
    cases (show w = cv from h2)
    exact ⟨b, er.cls, d, cv, u, bb, rfl, o.gh _ _ h3, h4.dict o.gh, T, k, kit, k' _ bb G H rfl (Step.refl o) rfl⟩) hg (by decide) (by decide) hs hpl rfl
/-- e.f -/
theorem ev_fldE {f : Str} {x : Vl} (ha : EV X M e Γ rErr er) (T : XfC X.K er.cls) (n : PySem.W.findIn X.K (.ref er.cls) f = some none) (hl : er.fs.lookup f = some x) (hb : attributeBase e f X.env (eval e X.env) = eval e X.env := by rfl) : EV X M (.Attribute e f pos) Γ rVl x := fun H0 G H σ t Q k =>
  of_pe (pe_errF pe_of hb) (ha H0 G H σ t _ fun v y G' H' ey s r => by
    subst ey
    obtain ⟨b, d, rfl, h1, h2⟩ := r
    rcases h2 with ⟨h2, _⟩ | ⟨dd, vs, rfl, h3, h4⟩
    · rw [h2] at hl; cases hl
    · obtain ⟨v, h5, h6⟩ := h4 f x hl
      exact ⟨b, _, dd, vs, v, rfl, s.gh _ _ h1, s.gh _ _ h3, T, n, h5, k v x G' H' rfl s h6⟩)
theorem ev_vlS {s : Str} (h : EV X M e Γ rVl (.str s)) : EV X M e Γ rStr s := ev_conv h fun _ _ r => r
end
/-! ### an error class with an own __init__ -/
/-- the first own class of the package's errors -/
structure ErO (K : PySem.W.Frag) (mg : Str → Option Value) (CO : Addr) : Prop where
  mg : mg "OrderError" = some (.ref CO)
  rd : PySem.W.readsIn K CO (.type "type") = true
  ga : PySem.W.specialIn K (.ref CO) "__getattribute__" = some (some (.builtin "type.__getattribute__"))
  vi : PySem.W.findCls K (.ref CO) (.type "type") "__init__" = some (.val (.builtin "ValueError.__init__"))
theorem pe_oinit {X : Cx} {CO : Addr} {e : Expr} {es : List Expr} {ta : TA} {p1 p2 pos : Pos} {pl : Sem Bool} (O : ErO X.K X.mg CO) (ha : PA X (e :: es) ta) (hg : Gl X "OrderError" := by rfl)
    (hc : eval (.Call (.Attribute (.Name "OrderError" p1) "__init__" p2) (e :: es) [] pos) X.env = (do
      let ov ← eval (.Name "OrderError" p1) X.env
      standAt p2.atName
      let (f, first) ← holding [ov] (getMethod ov "__init__" pl)
      callWith pos f first (backTo pos (starEach (e :: es) X.env)) (backToKw pos (keywordEach [] X.env))) := by rfl)
    (he : starEach (e :: es) X.env = (false, eval e X.env) :: starEach es X.env := by rfl) (hpl : (backTo pos (starEach es X.env)).any (·.1) = false := by rfl) :
    PE X (.Call (.Attribute (.Name "OrderError" p1) "__init__" p2) (e :: es) [] pos) (tVeI X.K ta) := by
  refine ⟨fun pins s σ H Q I h => PySem.W.methodCall_KW (ld_glob I hg O.mg (PySem.W.method_cls I.kIn O.ga (PySem.W.cls_value I.kIn O.rd O.vi rfl ?_))) hc⟩
  show wpAny _ _ (callWith pos (Value.builtin "ValueError.__init__") [] (backTo pos (starEach (e :: es) X.env)) []) _ _ _
  refine PyProof.Rows.callWith_method1 (thn (ha.run pos pins _ σ H _ (I.tok _) h) fun us s1 hh => ?_) he hpl
  obtain ⟨vs, H1, I1, r1, a, C, ws, rfl, hl, T, ea, q⟩ := hh
  cases r1 with
  | @cons _ u0 _ ur ra rw' =>
    cases (show u0 = Value.ref a from ra)
    exact oinit_ok T I1 ea (by rw [← Paired.length rw', sizeLine_eq]; omega) fun s' J => ⟨.non, H1, J, rfl, q⟩
/-- __init__ stores its arguments under their names -/
def spE (C : Addr) (nms : List Str) : Sp := fun vs H Q _ => ∃ (a : Addr) (ws : List V), vs = .ref a :: ws ∧ ws.length = nms.length ∧ H a = some (exo a C none) ∧ ∀ d, H d = none → d ≠ a → Q .non (upd (upd H d (exd d (nms.zip ws).reverse)) a (exo a C (some d)))
/-- what the written part says of such a class -/
structure ErC1 (P : Program) (w : World) (K : PySem.W.Frag) (mg : Str → Option Value) (base : Heap) (x : Str) (C : Addr) (nms : List Str) : Prop where
  ox : OexC K C
  gC : mg x = some (.ref C)
  ini : ∃ (fI : Addr) (fd : FuncData), PySem.W.findIn K (.ref C) "__init__" = some (some (.ref fI)) ∧ PySem.W.typeIn K (.ref fI) = some (.type "function") ∧ Binds K fd ("self" :: nms) [] ∧ FnOk P w K mg base CX0 1 fI fd ("self" :: nms) (spE C nms)
theorem del_upd {H1 : Hp} {a d : Addr} {o1 o2 o3 : HO} (ha : H1 a = none) (hd : d ≠ a) (u : HO) : upd (L2.del (upd (upd (upd H1 a o1) d o2) a o3) a) d u = upd H1 d u := by
  funext b
  by_cases e : b = d
  · rw [e, upd_same, upd_same]
  · rw [upd_ne e, upd_ne e]
    by_cases e2 : b = a
    · rw [e2, L2.del_same, ha]
    · rw [L2.del_ne e2, upd_ne e2, upd_ne e, upd_ne e2]
section
variable {X : Cx} {M T : Md} {Γ : List Ent} {rest : List Stmt} {Po : Post} {Z : Er → Prop} {x : Str} {C : Addr} {e : Expr} {es : List Expr} {p pos pos2 : Pos} {nms : List Str} {xs : List Vl}
/-- raise X(e, ..) -/
theorem sx_raise1 {A : List Ent → Prop} {P : List Vl → Prop} (hc : X.calm = true) (K : ErC1 X.prog X.w X.K X.mg X.base x C nms) (hr : Room 2 X.A) (ha : EAp X M (e :: es) Γ A) (hA : ∀ as, A as → ∃ xs : List Vl, as = xs.map (fun x => Ent.val rVl x) ∧ xs.length = nms.length ∧ Z ⟨C, (nms.zip xs).reverse⟩) (hn : nms.length ≤ 100) (hg : Gl X x := by rfl) (hdb : (x == ("__debug__" : Str)) = false := by decide)
    (he : starEach (e :: es) X.env = (false, eval e X.env) :: starEach es X.env := by rfl) (hpl : (backTo pos (starEach es X.env)).any (·.1) = false := by rfl) (hle : Le M T := by first | exact Le.refl _ | assumption | exact Le.up (by omega)) :
    SSx X M T (.Raise (some (.Call (.Name x p) (e :: es) [] pos)) none pos2 :: rest) Γ Po Z := fun W tk G0 H0 G H σ D t s _ w => by
  obtain ⟨fI, fd, iC, tI, bd, F⟩ := K.ini
  refine of_pss (pss_cons ps_of pss_of) (of_ps (ps_raise hc tk (pmk_oex K.ox iC tI F hr bd .nil pass0 hg K.gC pa_of hdb he hpl)) (ha H0 G H σ t _ fun vs as G' H' hA' s' ar => ?_))
  obtain ⟨xs, rfl, hl, hz⟩ := hA as hA'
  have hlv : vs.length = nms.length := by rw [ar.1, List.length_map, hl]
  refine ⟨by omega, fun a na => ⟨a, vs, by rw [List.append_nil], hlv, upd_same, fun d nd hda => ⟨rfl, d, (nms.zip vs).reverse, upd_same, by rw [upd_ne hda, upd_same], ?_, ?_⟩⟩⟩
  · rw [upd_ne hda] at nd; exact nd
  · rw [upd_ne hda] at nd
    rw [del_upd na hda]
    have o' := s'.okk t.ok
    have sn := Step.new o' (u := .xd (nms.zip vs).reverse) nd trivial
    refine w _ _ _ σ (upd G' d (.xd (nms.zip vs).reverse)) _ hz ⟨rfl, .inr ⟨d, _, rfl, upd_same, ?_⟩⟩ (((s.trans s').trans sn).le hle)
    have pr := argsAll ar
    intro f x' hf
    have key : ∀ (ns : List Str) (vs : List V) (xs : List Vl), Paired (rVl.rel G') vs xs → ∀ (av : List (Str × V)) (ax : List (Str × Vl)), Paired (fun (p : Str × V) (q : Str × Vl) => p.1 = q.1 ∧ rVl.rel G' p.2 q.2) av ax → Paired (fun (p : Str × V) (q : Str × Vl) => p.1 = q.1 ∧ rVl.rel G' p.2 q.2) ((ns.zip vs).reverse ++ av) ((ns.zip xs).reverse ++ ax) := by
      intro ns
      induction ns with
      | nil => intro vs xs _ av ax h; simpa using h
      | cons n ns ih =>
        intro vs xs h av ax h2
        cases h with
        | nil => simpa using h2
        | cons r t =>
          rw [List.zip_cons_cons, List.zip_cons_cons, List.reverse_cons, List.reverse_cons, List.append_assoc, List.append_assoc]
          exact ih _ _ t _ _ (.cons ⟨rfl, r⟩ h2)
    have kk := key nms vs xs pr [] [] .nil
    rw [List.append_nil, List.append_nil] at kk
    have look : ∀ {l : List (Str × V)} {m : List (Str × Vl)}, Paired (fun (p : Str × V) (q : Str × Vl) => p.1 = q.1 ∧ rVl.rel G' p.2 q.2) l m → m.lookup f = some x' → ∃ v, l.lookup f = some v ∧ rVl.rel G' v x' := by
      intro l m h
      induction h with
      | nil => intro z; cases z
      | @cons p q l m r t ih =>
        intro z
        obtain ⟨p1, p2⟩ := p
        obtain ⟨q1, q2⟩ := q
        obtain ⟨r1, r2⟩ := r
        cases (show p1 = q1 from r1)
        rw [List.lookup_cons] at z ⊢
        cases e : (f == p1) with
        | true => rw [e] at z; cases z; exact ⟨_, rfl, r2⟩
        | false => rw [e] at z; exact ih z
    obtain ⟨v, h1, h2⟩ := look kk hf
    exact ⟨v, h1, rVl.mono sn.g h2⟩
end
section
variable {P : Program} {w : World} {K : PySem.W.Frag} {mg : Str → Option Value} {base : Heap} {C CO f : Addr} {fd : FuncData}
/-- __init__ with one field -/
theorem fn_err1 {qual nm m : Str} {st : Stmt} {j : Nat} {p1 p2 p3 p4 p5 p6 q1 q2 q3 q4 : Pos} (F : Fun K "__init__" qual st f fd) (S : FnScope ["self", nm] ["self", nm] (defScope st)) (_O : ErO K mg CO) (T : OexC K C) (nf : PySem.W.findIn K (.ref C) nm = some none)
    (hb : defBody st = [.Expr (.Call (.Attribute (.Name "OrderError" p1) "__init__" p2) [.Name "self" p3, .Constant (.str m) j p4] [] p5) p6, .Assign [.Attribute (.Name "self" q1) nm q2] (.Name nm q3) q4] := by rfl)
    (hs : (defScope st).names.lookup ("self" : Str) = some .local := by rfl) (hn : (defScope st).names.lookup nm = some .local := by rfl) (hnd : (nm == ("__debug__" : Str)) = false ∧ (nm == ("__classdict__" : Str)) = false := by exact ⟨by decide, by decide⟩)
    (hi : ∀ (cdv : Value) (A : Around) (outer : List Env) (s : Shared) (H : Hp) (E : XK), PE (cxOf CX0 P w K mg base ["self", nm] qual (defScope st) f cdv A outer s H E).nox (.Call (.Attribute (.Name "OrderError" p1) "__init__" p2) [.Name "self" p3, .Constant (.str m) j p4] [] p5) (tVeI K (tCons (tVar 0) (tCons (tC (.str m)) tNil))) := by exact fun _ _ _ _ _ _ => pe_oinit (by assumption) (pa_cons (pv 0) (pa_cons pe_str pa_nil))) : FnOk P w K mg base CX0 1 f fd ["self", nm] (spE C [nm]) := by
  refine F.ok S (fun vs H Q E ⟨a, ws, e, hl, _⟩ => by rw [e]; simp [hl]) fun cdv A outer s H vs Q E hr h => ?_
  obtain ⟨a, ws, rfl, hl, ha, hq⟩ := h
  obtain ⟨y, rfl⟩ : ∃ y, ws = [y] := match ws, hl with | [y], _ => ⟨y, rfl⟩
  rw [hb]
  have v0 : ∀ (p : Pos), PE (cxOf CX0 P w K mg base ["self", nm] qual (defScope st) f cdv A outer s H E).nox (.Name "self" p) (tVar 0) := fun p => pe_var (i := 0) rfl (.inl hs)
  have v1 : ∀ (p : Pos), PE (cxOf CX0 P w K mg base ["self", nm] qual (defScope st) f cdv A outer s H E).nox (.Name nm p) (tVar 1) := fun p => pe_var (i := 1) rfl (.inl hn) hnd.1 hnd.2
  refine ⟨_, pss_cons (ps_expr (hi cdv A outer s H E)) (pss_one (ps_ost (v0 q1) (v1 q3))), ?_⟩
  refine ⟨.ref a, rfl, a, C, [.str m], rfl, by simp, T, ha, y, rfl, .ref a, rfl, a, C, rfl, T, nf, .inl ⟨ha, fun dx ndx hda => ?_⟩⟩
  exact hq dx ndx hda
end
end RT

/-! RT33: an error that is caught and kept (_law_caught). -/
namespace RT
open PySem L2
open PyProof.Rows (envOfC)
section
variable {X : Cx} {pins : List (Addr × Obj)} {σ : St} {H : Hp} {s : Shared}
/-- a pinned error is tracked from now on -/
theorem inv_track {a C : Addr} {d : Option Addr} {oe : Obj} {vs : Array Value} (I : Inv X ((a, oe) :: pins) σ H s) (hz : Zc (.ref C) d oe) (hf : oe.data = .fields vs) (n0 : X.s_0.heap.get? a = none) (np : ∀ p ∈ X.pn ++ pins, p.1 ≠ a) : Inv X pins σ (upd H a (exv C d a)) s := by
  obtain ⟨ha, na, nl, _, _⟩ := I.pin (a, oe) (List.mem_append_right _ List.mem_cons_self)
  have at_ : ∀ {b : Addr} {o : HO}, H b = some o → upd H a (exv C d a) b = some o := fun {b o} e => by rw [upd_ne (ne_of_none e na)]; exact e
  have un : ∀ {b : Addr}, b ≠ a → H b = none → upd H a (exv C d a) b = none := fun {b} h e => by rw [upd_ne h]; exact e
  refine ⟨I.ok, I.os, I.bare, ⟨I.base.keep, I.base.slot, fun b o e n hx => un (fun z => by rw [z, n0] at e; cases e) (I.base.free b o e n hx), I.base.there, fun b xs e => at_ (I.base.tups b xs e), fun b o u e => at_ (I.base.frzs b o u e), fun b ps e => let ⟨m, q⟩ := I.base.tbls b ps e; ⟨m, at_ q⟩⟩,
    I.loc, I.cell, un (Ne.symm nl) I.free, fun x c e => un (fun z => ?_) (I.freeC x c e), fun p hp => ?_, fun b u e => ?_, I.len⟩
  · obtain ⟨v, o, ho, hd⟩ := I.cell x c e
    subst z
    have ha' : s.heap.get? c = some oe := ha
    rw [ha'] at ho; cases ho
    rw [hf] at hd; cases hd
  · obtain ⟨p1, p2, p3⟩ := I.pin p (by
      rcases List.mem_append.mp hp with h | h
      · exact List.mem_append_left _ h
      · exact List.mem_append_right _ (List.mem_cons_of_mem _ h))
    exact ⟨p1, un (np p hp) p2, p3⟩
  · by_cases hb : b = a
    · subst hb
      rw [upd_same] at e; cases e
      exact exv_ok ha hz hf
    · rw [upd_ne hb] at e
      exact (I.hok b u e).stay (fun _ _ _ q => q) (fun _ q => at_ q) fun _ _ q => at_ q
end
/-- what 'except c as n: y = n' wishes of an error of the body: slot i is n's, slot j is y's -/
def wKept (K : PySem.W.Frag) (c : Value) (i j : Nat) (D : Ends) : WX := fun cls d σ H => ∃ C, cls = .ref C ∧ PySem.W.exmOne K (.ref C) c = some true ∧ ∀ a, H a = none → D.nx (((σ.set i (some (.ref a))).set j (some (.ref a))).set i none) (upd H a (exv C d a))
section
variable {X : Cx} {x n y : Str} {c : Value} {i j : Nat} {body : List Stmt} {np pos pos' q1 q2 q3 : Pos} {tb : WX → TS}
theorem ps_kept (hs : X.stack = X.env :: X.outer) (hf : X.env.frame = some X.env.locals) (hex : X.ex = []) (hN : X.N.Nodup) (hi : X.N[i]? = some n) (hln : X.env.kindOf n = some .local) (hj : X.N[j]? = some y) (hly : X.env.kindOf y = some .local) (hc : Names X x c) (hnd : (n == ("__debug__" : Str)) = false ∧ (n == ("__classdict__" : Str)) = false)
    (hsw : swapsWith (.Name n q2) (some (.Name y q1)) q3.line X.env = pure false)
    (hb : ∀ (W : WX) (pn : List (Addr × Obj)) (xe : Value → Shared → Prop), Takes (X.tr pn xe) W → PSs (X.tr pn xe) body (tb W)) :
    PS X (.Try body [.ExceptHandler (some (.Name x np)) (some n) [.Assign [.Name y q1] (.Name n q2) q3] pos'] [] [] pos) (fun D σ H => tb (wKept X.K c i j D) D σ H) := by
  refine ⟨fun pins s σ H D I h => ?_⟩
  have ok := I.ok
  have hfr : X.A.frames = some (X.env :: X.outer) := by rw [ok.frames, hs]
  refine wpAny_Try_except (wpAny_mono ((hb (wKept X.K c i j D) (X.pn ++ pins) _ (fun u s' xx => ?_)).run [] s σ H D (I.toTry _) h) (fun f s1 hsp => ?_) (fun e s1 he => he))
  · obtain ⟨a, B, sI, pins', σ', H', cls, d, rfl, J', nb, up, sky, na, os, ag, C, rfl, hm, hq⟩ := xx
    have J : Inv X pins σ' H' sI := J'.ofTry ok
    refine Sky.land Zc.steady hfr hf (by rw [← hs]; exact sky) fun h3 fl3 up3 => ?_
    have J3 : Inv X pins σ' H' { s' with heap := h3 } := J.landed nb fl3.1 (up.trans up3) os ag
    obtain ⟨oe3, vs3, he3, hz3, hd3⟩ := fl3.there
    have noFrame : a ∉ frs X.stack := fun hm => by
      obtain ⟨_, o', e', hnf⟩ := fl3.2.2.1.mem (by rw [← hs]; exact hm)
      rw [he3] at e'; cases e'
      exact hnf _ hd3
    have nB : B.get? a = none := fl3.2.1
    have nL : a ≠ X.env.locals := fun z => noFrame (by rw [hs]; exact List.mem_filterMap.mpr ⟨X.env, List.mem_cons_self, by rw [hf, z]⟩)
    have nF : a ∉ X.fs := fun hm => by
      obtain ⟨e, he, q⟩ := List.mem_filterMap.mp hm
      exact noFrame (by rw [hs]; exact List.mem_filterMap.mpr ⟨e, List.mem_cons_of_mem _ he, q⟩)
    have nI : sI.heap.get? a = none := by
      cases e : sI.heap.get? a with
      | none => rfl
      | some o => have z := nb a o e noFrame; rw [nB] at z; cases z
    have n0 : X.s_0.heap.get? a = none := by
      cases e : X.s_0.heap.get? a with
      | none => rfl
      | some o =>
        obtain ⟨o', q⟩ := J.base.there a o e (by rw [hex]; exact fun z => nomatch z)
        rw [nI] at q; cases q
    have np' : ∀ p ∈ X.pn ++ pins, p.1 ≠ a := fun p hp z => by
      have q := (J.pin p hp).1
      rw [z, nI] at q; cases q
    have S3 := J3.suite he3 hd3 na nL nF
    refine wpAny_handleBy_cons (codeAny_handlers_test ?_) (by intro q; cases q)
    have LT : PySem.W.Looks (model X.prog X.w) h3 (typeOf (.ref a)) (.ref C) := fun A Q E s k q => wpAny_typeOf_ref (k _ _ he3) (by rw [hz3.1]; exact q)
    have LM := PySem.W.exm_one (M := model X.prog X.w) (J3.kIn) LT hm
    have asks : ∀ {Q : Value → Shared → Prop} {E : Value → Shared → Prop}, Q c { s' with heap := h3 } → wpAny (model X.prog X.w) (X.A.mark (some (.ref a))) (eval (.Name x np) X.env) Q E { s' with heap := h3 } := fun {Q E} q => by
      obtain ⟨hg, hdbg, hm | ⟨hm, hv, hnn⟩⟩ := hc
      · exact ld_glob (X := X.suite a ((a, oe3) :: (X.pn ++ pins))) S3 hg hm q hdbg
      · exact ld_blt (X := X.suite a ((a, oe3) :: (X.pn ++ pins))) S3 hg hm hv q hnn hdbg
    refine asks (LM.here (codeAny_handlers_suite_as (HandSPX.lands_againZ fl3 fun h4 fl4 up4 => ?_)))
    have J4 : Inv X pins σ' H' { s' with heap := h4 } := J.landed nb fl4.1 ((up.trans up3).trans up4) os ag
    obtain ⟨oe4, vs4, he4, hz4, hd4⟩ := fl4.there
    have S4 := J4.suite he4 hd4 na nL nF
    refine store_ok (X := X.suite a ((a, oe4) :: (X.pn ++ pins))) (v := .ref a) S4 hN hi (.inl hln) rfl (fun s5 S5 => ?_) (.inr hln)
    have suite : PSs (X.suite a ((a, oe4) :: (X.pn ++ pins))) [.Assign [.Name y q1] (.Name n q2) q3] _ := pss_one (ps_set (i := j) hN hj (.inl hly) (pe_var (i := i) hi (.inl hln) hnd.1 hnd.2) hsw (.inr hly))
    have hil : i < σ'.length := by rw [J.len]; exact (List.getElem?_eq_some_iff.mp hi).1
    refine wpAny_mono (suite.run [] s5 _ H' { nx := fun σ6 H6 => σ6 = (σ'.set i (some (.ref a))).set j (some (.ref a)) ∧ H6 = H', rt := fun _ _ => False, bk := fun _ _ => False, ct := fun _ _ => False } S5 ⟨.ref a, List.getElem?_set_self hil, rfl, rfl⟩) (fun f s6 hsp => ?_) (fun _ _ z => False.elim z)
    match f, hsp with
    | .next, ⟨σ6, H6, S6, e1, e2⟩ =>
      subst e1 e2
      have S6' : Inv X ((a, oe4) :: pins) _ H6 s6 := ⟨ok, S6.os, S6.bare, S6.base, S6.loc, S6.cell, S6.free, S6.freeC, fun p hp => S6.pin p (by
        rw [List.append_nil]
        rcases List.mem_append.mp hp with h | h
        · exact List.mem_cons_of_mem _ (List.mem_append_left _ h)
        · rcases List.mem_cons.mp h with h | h
          · rw [h]; exact List.mem_cons_self
          · exact List.mem_cons_of_mem _ (List.mem_append_right _ h)), S6.hok, S6.len⟩
      exact gone_ok S6' hN hi hln fun s7 J7 => ⟨_, _, inv_track J7 hz4 hd4 n0 np', hq a na⟩
    | .ret u, ⟨_, _, _, _, _, z⟩ => exact z.elim
    | .brk, ⟨_, _, _, z⟩ => exact z.elim
    | .cont, ⟨_, _, _, z⟩ => exact z.elim
  · cases f with
    | next =>
      obtain ⟨σ', H', J', q⟩ := hsp
      exact wpAny_execs_nil ⟨σ', H', J'.ofTry ok, q⟩
    | brk => obtain ⟨σ', H', J', q⟩ := hsp; exact ⟨σ', H', J'.ofTry ok, q⟩
    | cont => obtain ⟨σ', H', J', q⟩ := hsp; exact ⟨σ', H', J'.ofTry ok, q⟩
    | ret u => obtain ⟨v, σ', H', J', r, q⟩ := hsp; exact ⟨v, σ', H', J'.ofTry ok, r, q⟩
end
end RT

/-! RT34: cells that are told of while a lambda may be called: hidden and laid open again. -/
namespace RT
open PySem L2
open PyProof.Rows (envOfC AllBare)
open Classical in
/-- without the objects of S -/
noncomputable def hide (S : Addr → Prop) (H : Hp) : Hp := fun b => if S b then none else H b
open Classical in
/-- at S as K has it -/
noncomputable def lay (S : Addr → Prop) (K H : Hp) : Hp := fun b => if S b then K b else H b
/-- an object that is known and never changes -/
def KnO (o : Obj) : HO := .frz o (.ext fun _ => True)
theorem kno_ok {P : Program} {w : World} {H : Hp} {h : Heap} {a : Addr} {o : Obj} (e : h.get? a = some o) : ObjOk P w H h a (KnO o) := ⟨e, trivial, ⟨o, e⟩, fun _ _ _ _ => trivial⟩
section
variable {S : Addr → Prop} {H H' H1 H2 G G' G2 K : Hp} {b : Addr}
theorem hide_in (h : S b) : hide S H b = none := by unfold hide; rw [if_pos h]
theorem hide_out (h : ¬ S b) : hide S H b = H b := by unfold hide; rw [if_neg h]
theorem lay_in (h : S b) : lay S K H b = K b := by unfold lay; rw [if_pos h]
theorem lay_out (h : ¬ S b) : lay S K H b = H b := by unfold lay; rw [if_neg h]
theorem hide_some {o : HO} (h : hide S H b = some o) : ¬ S b ∧ H b = some o := by
  by_cases s : S b
  · rw [hide_in s] at h; cases h
  · exact ⟨s, by rw [hide_out s] at h; exact h⟩
theorem hide_none (h : H b = none) : hide S H b = none := by
  by_cases s : S b
  · exact hide_in s
  · rw [hide_out s]; exact h
/-- all of S is known in H -/
def KnS (S : Addr → Prop) (H : Hp) : Prop := ∀ c, S c → ∃ o, H c = some (KnO o)
theorem KnS.not {u : HO} (k : KnS S H) (e : H b = some u) (n : ∀ o φ, u ≠ .frz o (.ext φ)) : ¬ S b := fun s => by
  obtain ⟨o, q⟩ := k b s
  rw [e] at q; exact n o _ (Option.some.inj q)
theorem KnS.keep {u : HO} (k : KnS S H) (e : H b = some u) (n : ∀ o φ, u ≠ .frz o (.ext φ)) : hide S H b = some u := by rw [hide_out (k.not e n)]; exact e
theorem same_hide (h : Same G H) : Same (hide S G) (hide S H) := fun b o e => by
  obtain ⟨s, q⟩ := hide_some e
  rw [hide_out s]; exact h _ _ q
theorem same_lay (h : Same G H) : Same (lay S G G2) (lay S H G2) := fun b o e => by
  by_cases s : S b
  · rw [lay_in s] at e ⊢; exact h _ _ e
  · rw [lay_out s] at e ⊢; exact e
variable {P : Program} {w : World} {h h' : Heap}
theorem hok_hide (x : HOk P w H h) (k : KnS S H) : HOk P w (hide S H) h := fun b u e => by
  obtain ⟨s, q⟩ := hide_some e
  exact (x b u q).stay (fun _ _ _ z => z) (fun c z => k.keep z fun _ _ q => nomatch q) fun c xs z => k.keep z fun _ _ q => nomatch q
/-- what is laid open must be there -/
theorem hok_lay (x : HOk P w H' h') (k : ∀ c, S c → ∃ o, K c = some (KnO o) ∧ h'.get? c = some o) (n : ∀ c, S c → H' c = none) : HOk P w (lay S K H') h' := fun b u e => by
  by_cases s : S b
  · obtain ⟨o, q, z⟩ := k b s
    rw [lay_in s, q] at e; cases e
    exact kno_ok z
  · rw [lay_out s] at e
    exact (x b u e).stay (fun _ _ _ z => z) (fun c z => by rw [lay_out fun s => by rw [n c s] at z; cases z]; exact z) fun c xs z => by rw [lay_out fun s => by rw [n c s] at z; cases z]; exact z
theorem un_lay {fs : List Addr} (u : Un fs [] (hide S H) H' h h') (k : KnS S H) : Un fs [] H (lay S H H') h h' where
  keep := fun b o e n hb hx => u.keep b o e (hide_none n) hb hx
  slot := fun b o e n hb hx => u.slot b o e (hide_none n) hb hx
  free := fun b o e n hx => by
    by_cases s : S b
    · rw [lay_in s]; exact n
    · rw [lay_out s]; exact u.free b o e (hide_none n) hx
  there := u.there
  tups := fun b xs e => by
    have z := k.not e fun _ _ q => nomatch q
    rw [lay_out z]; exact u.tups b xs (by rw [hide_out z]; exact e)
  frzs := fun b o v e => by
    by_cases s : S b
    · rw [lay_in s]; exact e
    · rw [lay_out s]; exact u.frzs b o v (by rw [hide_out s]; exact e)
  tbls := fun b ps e => by
    have z := k.not e fun _ _ q => nomatch q
    obtain ⟨m, q⟩ := u.tbls b ps (by rw [hide_out z]; exact e)
    exact ⟨m, by rw [lay_out z]; exact q⟩
theorem ub_lay {fs : List Addr} {B : Heap} (u : UB fs (hide S H) H' h B h') (k : KnS S H) : UB fs H (lay S H H') h B h' where
  keep := fun b o e n hb => u.keep b o e (hide_none n) hb
  slot := u.slot
  free := fun b o e n => by
    by_cases s : S b
    · rw [lay_in s]; exact n
    · rw [lay_out s]; exact u.free b o e (hide_none n)
  there := u.there
  tups := fun b xs e => by
    have z := k.not e fun _ _ q => nomatch q
    rw [lay_out z]; exact u.tups b xs (by rw [hide_out z]; exact e)
  frzs := fun b o v e => by
    by_cases s : S b
    · rw [lay_in s]; exact e
    · rw [lay_out s]; exact u.frzs b o v (by rw [hide_out s]; exact e)
  tbls := fun b ps e => by
    have z := k.not e fun _ _ q => nomatch q
    obtain ⟨m, q⟩ := u.tbls b ps (by rw [hide_out z]; exact e)
    exact ⟨m, by rw [lay_out z]; exact q⟩
/-- the other way: H is without S, H+ has it -/
theorem un_hide {fs : List Addr} (u : Un fs [] (lay S K H) H2 h h') (x2 : HOk P w H2 h') (k : ∀ c, S c → ∃ o, K c = some (KnO o) ∧ h.get? c = some o) (n : ∀ c, S c → H c = none) (nf : ∀ c, S c → c ∉ fs) : Un fs [] H (hide S H2) h h' where
  keep := fun b o e nb hb hx => by
    by_cases s : S b
    · obtain ⟨ob, q, z⟩ := k b s
      have y := (x2 b _ (u.frzs b ob _ (by rw [lay_in s]; exact q))).1
      rw [z] at e; cases e; exact y
    · exact u.keep b o e (by rw [lay_out s]; exact nb) hb hx
  slot := fun b o e nb hb hx => u.slot b o e (by rw [lay_out fun s => nf b s hb]; exact nb) hb hx
  free := fun b o e nb hx => by
    by_cases s : S b
    · exact hide_in s
    · rw [hide_out s]; exact u.free b o e (by rw [lay_out s]; exact nb) hx
  there := u.there
  tups := fun b xs e => by
    have z : ¬ S b := fun s => by rw [n b s] at e; cases e
    rw [hide_out z]; exact u.tups b xs (by rw [lay_out z]; exact e)
  frzs := fun b o v e => by
    have z : ¬ S b := fun s => by rw [n b s] at e; cases e
    rw [hide_out z]; exact u.frzs b o v (by rw [lay_out z]; exact e)
  tbls := fun b ps e => by
    have z : ¬ S b := fun s => by rw [n b s] at e; cases e
    obtain ⟨m, q⟩ := u.tbls b ps (by rw [lay_out z]; exact e)
    exact ⟨m, by rw [hide_out z]; exact q⟩
/-! ### modes -/
variable {M : Md}
theorem szOk_hide (h : SzOk H) : SzOk (hide S H) := fun a xs r => h a xs (by
  rcases r with (r | ⟨o, r⟩) | (r | ⟨o, r⟩)
  · exact .inl (.inl (hide_some r).2)
  · exact .inl (.inr ⟨o, (hide_some r).2⟩)
  · exact .inr (.inl (hide_some r).2)
  · exact .inr (.inr ⟨o, (hide_some r).2⟩))
theorem szOk_lay (h : SzOk H') (k : ∀ c, S c → ∃ o, K c = some (KnO o)) : SzOk (lay S K H') := fun a xs r => by
  by_cases s : S a
  · obtain ⟨o, q⟩ := k a s
    rcases r with (r | ⟨o', r⟩) | (r | ⟨o', r⟩) <;> rw [lay_in s, q] at r <;> cases r
  · refine h a xs ?_
    rcases r with (r | ⟨o, r⟩) | (r | ⟨o, r⟩) <;> rw [lay_out s] at r
    · exact .inl (.inl r)
    · exact .inl (.inr ⟨o, r⟩)
    · exact .inr (.inl r)
    · exact .inr (.inr ⟨o, r⟩)
theorem Okk.notS (o : Okk M G H) (n : ∀ c, S c → H c = none) {a : Addr} (ha : a ∈ M.F) : ¬ S a := fun s => (o.f a ha).1 (n a s)
/-- S becomes known: it was not tracked -/
theorem okk_lay (o : Okk M G H) (k : ∀ c, S c → ∃ ob, K c = some (KnO ob)) (n : ∀ c, S c → H c = none) : Okk M (lay S K G) (lay S K H) := by
  have sg : Same G (lay S K G) := fun b u e => by rw [lay_out fun s => by rw [o.gh.free (n b s)] at e; cases e]; exact e
  have gh : Same (lay S K G) (lay S K H) := fun b u e => by
    by_cases s : S b
    · rw [lay_in s] at e ⊢; exact e
    · rw [lay_out s] at e ⊢; exact o.gh _ _ e
  exact ⟨gh, szOk_lay o.sz k, M.up o.i sg gh (fun a ha => lay_out (o.notS n ha)) (fun a φ e => by rw [lay_out fun s => by rw [n a s] at e; cases e]; exact e),
    fun a ha => ⟨by rw [lay_out (o.notS n ha)]; exact (o.f a ha).1, by rw [lay_out (o.notS n ha)]; exact (o.f a ha).2⟩⟩
/-- behind the call S is hidden again -/
theorem step_hide (o : Okk M G H) (s : Step M (lay S K G) (lay S K H) G2 H2) (k : ∀ c, S c → ∃ ob, K c = some (KnO ob)) (n : ∀ c, S c → H c = none) : Step M G H (hide S G2) (hide S H2) := by
  have ns : ∀ {b : Addr} {u : HO}, H b = some u → ¬ S b := fun {b u} e z => by rw [n b z] at e; cases e
  have gn : ∀ {b : Addr} {u : HO}, G b = some u → ¬ S b := fun {b u} e => ns (o.gh _ _ e)
  have g : Same G (hide S G2) := fun b u e => by rw [hide_out (gn e)]; exact s.g b u (by rw [lay_out (gn e)]; exact e)
  have gh : Same (hide S G2) (hide S H2) := same_hide s.gh
  have sg : Same G G2 := fun b u e => s.g b u (by rw [lay_out (gn e)]; exact e)
  have sk : ∀ c, S c → ∃ ob, H2 c = some (KnO ob) := fun c hc => by
    obtain ⟨ob, q⟩ := k c hc
    exact ⟨ob, s.gh _ _ (s.g c _ (by rw [lay_in hc]; exact q))⟩
  have i1 : M.I (hide S G2) H2 := M.mix o.i s.i g (fun b u e => (hide_some e).2) s.gh (fun a φ e => KnS.keep (fun c hc => let ⟨ob, q⟩ := k c hc; ⟨ob, s.g c _ (by rw [lay_in hc]; exact q)⟩) e fun _ _ q => nomatch q)
  refine ⟨g, gh, szOk_hide s.sz, fun a u ha e => by rw [hide_out (ns e)]; exact s.h a u ha (by rw [lay_out (ns e)]; exact e), fun a ha e => ?_, M.up i1 (Same.refl _) gh (fun a ha => hide_out (o.notS n ha)) (fun a φ e => ?_), fun a ha => by rw [hide_out (o.notS n ha)]; exact s.f a ha⟩
  · cases q : H a with
    | none => exact absurd q ha
    | some u => rw [hide_out (ns q)]; exact s.nw a (by rw [lay_out (ns q)]; exact ha) (by rw [lay_out (ns q)]; exact e)
  · refine KnS.keep (fun c hc => sk c hc) e fun _ _ q => nomatch q
/-- for the lambda's body S is hidden: I0 at an elder state without S -/
theorem okk_hide {G0 H0 : Hp} (o : Okk M G H) (i0 : M.I G0 H0) (g0 : Same G0 G) (n0 : ∀ c, S c → G0 c = none) (k : KnS S G) : Okk M (hide S G) (hide S H) := by
  have kh : KnS S H := fun c hc => let ⟨ob, q⟩ := k c hc; ⟨ob, o.gh _ _ q⟩
  have nf : ∀ a ∈ M.F, ¬ S a := fun a ha s => by
    obtain ⟨ob, q⟩ := k a s
    rw [(o.f a ha).2] at q; cases q
  have g : Same G0 (hide S G) := fun b u e => by rw [hide_out fun s => by rw [n0 b s] at e; cases e]; exact g0 _ _ e
  have i1 : M.I (hide S G) H := M.mix i0 o.i g (fun b u e => (hide_some e).2) o.gh (fun a φ e => k.keep e fun _ _ q => nomatch q)
  exact ⟨same_hide o.gh, szOk_hide o.sz, M.up i1 (Same.refl _) (same_hide o.gh) (fun a ha => hide_out (nf a ha)) (fun a φ e => kh.keep e fun _ _ q => nomatch q), fun a ha => ⟨by rw [hide_out (nf a ha)]; exact (o.f a ha).1, hide_none (o.f a ha).2⟩⟩
theorem step_lay (o : Okk M G H) (s : Step M (hide S G) (hide S H) G2 H2) (k : KnS S G) (n : ∀ c, S c → H2 c = none) : Step M G H (lay S G G2) (lay S H H2) ∧ Same G2 (lay S G G2) := by
  have kh : KnS S H := fun c hc => let ⟨ob, q⟩ := k c hc; ⟨ob, o.gh _ _ q⟩
  have nf : ∀ a ∈ M.F, ¬ S a := fun a ha z => by
    obtain ⟨ob, q⟩ := k a z
    rw [(o.f a ha).2] at q; cases q
  have n2 : ∀ c, S c → G2 c = none := fun c hc => s.gh.free (n c hc)
  have g2 : Same G2 (lay S G G2) := fun b u e => by rw [lay_out fun z => by rw [n2 b z] at e; cases e]; exact e
  have gh : Same (lay S G G2) (lay S H H2) := fun b u e => by
    by_cases z : S b
    · rw [lay_in z] at e ⊢; exact o.gh _ _ e
    · rw [lay_out z] at e ⊢; exact s.gh _ _ e
  refine ⟨⟨fun b u e => ?_, gh, szOk_lay s.sz kh, fun a u ha e => ?_, fun a ha e => ?_, M.up s.i g2 gh (fun a ha => lay_out (nf a ha)) (fun a φ e => by rw [lay_out fun z => by rw [n a z] at e; cases e]; exact e), fun a ha => by rw [lay_out (nf a ha)]; exact s.f a ha⟩, g2⟩
  · by_cases z : S b
    · rw [lay_in z]; exact e
    · rw [lay_out z]; exact s.g b u (by rw [hide_out z]; exact e)
  · by_cases z : S a
    · rw [lay_in z]; exact e
    · rw [lay_out z]; exact s.h a u ha (by rw [hide_out z]; exact e)
  · by_cases z : S a
    · rw [lay_in z]; exact e
    · rw [lay_out z]; exact s.nw a (by rw [hide_out z]; exact ha) (by rw [hide_out z]; exact e)
end
end RT

/-! RT35: what can be called without arguments; _law_caught; lambdas made, and called in defs that get them. -/
namespace RT
open PySem L2
open PyProof.Rows (envOfC AllBare)
/-! ### what a call without arguments does -/
inductive Oc where
  | ret
  | err (er : Er)
def rAct (P : Program) (w : World) (K : PySem.W.Frag) (mg : Str → Option Value) (base : Heap) (M : Md) (k : Nat) : Rp Oc where
  rel := fun G v oc => ∃ (f : Addr) (fo : Obj), v = .ref f ∧ G f = some (KnO fo) ∧ (∃ fd, fo.data = .func fd) ∧
    ∀ (G' H : Hp) (A : Around) (outer : List Env) (s : Shared) (Q : VK) (E : XK), Same G G' → Okk M G' H → Room k A → Env0 P w K mg base A outer s H →
      (oc = .ret → ∀ v G2 H2, Step M G' H G2 H2 → Q v H2) → (∀ er, oc = .err er → ∀ cls d G2 H2, ErOk G2 er cls d → Step M G' H G2 H2 → E cls d H2) →
      codeAny (model P w) A (.call (.ref f) ⟨[], []⟩) (CR (L2.CX P w) outer P w H s Q E) s
  mono := fun e ⟨f, fo, h1, h2, h3, h4⟩ => ⟨f, fo, h1, e _ _ h2, h3, fun G' H A outer s Q E g => h4 G' H A outer s Q E (e.trans g)⟩
/-- a(), a a local name -/
theorem pe_actS {X : Cx} {W : WX} {a : Str} {i k : Nat} {p1 p2 : Pos} (tk : Takes X W) (hr : Room k X.A) (hN : X.N[i]? = some a) (hv : Vis X.env.scope a) (hd : (a == ("__debug__" : Str)) = false := by decide) (hcd : (a == ("__classdict__" : Str)) = false := by decide) :
    PE X (.Call (.Name a p1) [] [] p2) (fun σ H Q => ∃ f fo, σ[i]? = some (some (.ref f)) ∧ H f = some (KnO fo) ∧ (∃ fd, fo.data = .func fd) ∧
      ∀ (A : Around) (outer : List Env) (s : Shared), Room k A → Env0 X.prog X.w X.K X.mg X.base A outer s H → codeAny (model X.prog X.w) A (.call (.ref f) ⟨[], []⟩) (CR (L2.CX X.prog X.w) outer X.prog X.w H s Q (fun cls d H' => W cls d σ H')) s) := by
  refine ⟨fun pins s σ H Q I h => ?_⟩
  obtain ⟨f, fo, hs, hf, ⟨fd, hfd⟩, h⟩ := h
  refine wpAny_Call_Name_kw (thn ((pe_var (pos := p1) (i := i) hN hv hd hcd).run pins s σ H (fun v H1 => v = .ref f ∧ H1 = H) I ⟨.ref f, hs, rfl, rfl⟩) fun u s1 ⟨v, H1, I1, r1, ev, eH⟩ => ?_)
  subst ev eH
  cases (show u = Value.ref f from r1)
  obtain ⟨hget, _⟩ := (show ObjOk X.prog X.w H1 s1.heap f (KnO fo) from I1.hok f _ hf)
  obtain ⟨oc, od, dt, sl⟩ := fo
  cases (show dt = .func fd from hfd)
  refine PySem.W.callWith_F0 ⟨_, _, _, _, hget⟩ (wpAny_call (codeAny_mono (h X.A X.stack s1 hr I1.env0) fun r s' hq => ?_))
  match r, hq with
  | .error e, hq => exact tk e s' (XE.of_call I1 (fun _ _ _ z => z) hq)
  | .ok (.ret u), hq => exact I1.after hq
/-! ### try: a() / except c as n: y = n -/
section
variable {X : Cx} {M T : Md} {Γ : List Ent} {rest : List Stmt} {Po : Post} {x n y a : Str} {c : Addr} {i j l k : Nat} {np pos pos' pos2 pos3 q1 q2 q3 p1 : Pos} {oc : Oc}
theorem ss_caught (i j l : Nat) (hN : X.N.Nodup) (h : Γ[l]? = some (.val (rAct X.prog X.w X.K X.mg X.base M k) oc)) (hm : ∀ er, oc = .err er → PySem.W.exmOne X.K (.ref er.cls) (.ref c) = some true) (hr : Room k X.A)
    (hret : oc = .ret → SSt X M T rest Γ Po) (herr : ∀ er, oc = .err er → SSt X M T rest (((Γ.set i .any).set j (.val rErr er)).set i .any) Po)
    (hc : X.mg x = some (.ref c)) (hs : X.stack = X.env :: X.outer := by rfl) (hf : X.env.frame = some X.env.locals := by rfl) (hex : X.ex = [] := by rfl) (hi : X.N[i]? = some n := by rfl) (hln : X.env.kindOf n = some .local := by rfl) (hj : X.N[j]? = some y := by rfl) (hly : X.env.kindOf y = some .local := by rfl)
    (hl : X.N[l]? = some a := by rfl) (hv : Vis X.env.scope a := by first | exact Or.inl rfl | exact Or.inr (Or.inl rfl) | exact Or.inr (Or.inr rfl)) (hg : Gl X x := by rfl) (hdb : (x == ("__debug__" : Str)) = false := by decide) (hd : (a == ("__debug__" : Str)) = false := by decide) (hcd : (a == ("__classdict__" : Str)) = false := by decide)
    (hnd : (n == ("__debug__" : Str)) = false ∧ (n == ("__classdict__" : Str)) = false := by exact ⟨by decide, by decide⟩) (hsw : swapsWith (.Name n q2) (some (.Name y q1)) q3.line X.env = pure false := by rfl) (hsw2 : swapsWith (.Call (.Name a p1) [] [] pos2) none pos3.line X.env = pure false := by rfl) :
    SSt X M T (.Try [.Expr (.Call (.Name a p1) [] [] pos2) pos3] [.ExceptHandler (some (.Name x np)) (some n) [.Assign [.Name y q1] (.Name n q2) q3] pos'] [] [] pos :: rest) Γ Po := fun G0 H0 G H σ D t s m => by
  obtain ⟨v, hsl, f, fo, rfl, gf, hfd, hrun⟩ := t.ent l _ h
  refine of_pss (pss_cons (ps_kept (tb := fun W => tDrop (fun σ H Q => ∃ f fo, σ[l]? = some (some (.ref f)) ∧ H f = some (KnO fo) ∧ (∃ fd, fo.data = .func fd) ∧
      ∀ (A : Around) (outer : List Env) (s : Shared), Room k A → Env0 X.prog X.w X.K X.mg X.base A outer s H → codeAny (model X.prog X.w) A (.call (.ref f) ⟨[], []⟩) (CR (L2.CX X.prog X.w) outer X.prog X.w H s Q (fun cls d H' => W cls d σ H')) s))
      hs hf hex hN hi hln hj hly ⟨hg, hdb, .inl hc⟩ hnd hsw (fun W pn xe tk => pss_one (ps_expr (pe_actS (X := X.tr pn xe) tk hr hl hv hd hcd) hsw2))) pss_of) ?_
  refine ⟨f, fo, hsl, t.ok.gh _ _ gf, hfd, fun A outer s2 hr2 e2 => hrun G H A outer s2 _ _ (Same.refl _) t.ok hr2 e2 (fun e v G2 H2 st => hret e G0 H0 G2 H2 σ D (t.step st) (s.trans st) m) (fun er e cls d G2 H2 ho st => ?_)⟩
  refine ⟨er.cls, ho.1, hm er e, fun b nb => ?_⟩
  have sn := Step.new (st.okk t.ok) (u := exv er.cls d b) nb trivial
  have tt := t.step (st.trans sn)
  have t1 : Stt M H0 (Γ.set i .any) (σ.set i (some (V.ref b))) _ _ := tt.put (e := .any) (fun _ => trivial) (fun z => z.elim)
  have t2 : Stt M H0 ((Γ.set i .any).set j (.val rErr er)) ((σ.set i (some (V.ref b))).set j (some (V.ref b))) _ _ := t1.put (e := .val rErr er) (fun hl => ⟨.ref b, List.getElem?_set_self (by rw [t1.len]; exact hl), b, d, rfl, upd_same, ho.2.mono sn.g⟩) (fun z => z.elim)
  exact herr er e G0 H0 _ _ _ D (t2.none i) (s.trans (st.trans sn)) m
end
/-! ### lambdas as values -/
structure Lm where
  params : Arguments
  body : Expr
  scope : Scope
/-- a lambda made in the frame of the def q with such cells -/
def rLam (q : Str) (cells : List (Str × Addr)) : Rp Lm where
  rel := fun G v ℓ => ∃ (f c' : Addr) (pm ctv : Value), v = .ref f ∧ G f = some (KnO (PySem.W.kla_obj "<lambda>" (q ++ "<lambda>") ℓ.params ℓ.body ℓ.scope (cloFrom cells ℓ.scope.names []) pm c' ctv)) ∧ G c' = some (LamX.CodeO c' (q ++ "<lambda>"))
  mono := fun e ⟨f, c', pm, ctv, h1, h2, h3⟩ => ⟨f, c', pm, ctv, h1, e _ _ h2, e _ _ h3⟩
/-! ### tables of code objects -/
def TabG (T : List (Addr × Str)) (G H : Hp) : Prop := ∀ p ∈ T, ∃ ps : Array Value, H p.1 = some (.tbl ps) ∧ TriplesOk ps.toList ∧ ∀ (pos : Pos) (cv : Value), codeAmong pos ps.toList = some cv → ∃ c, cv = .ref c ∧ G c = some (LamX.CodeO c p.2)
/-- .. that lambdas may be laid into, besides M -/
def MdT (T : List (Addr × Str)) (M : Md) : Md where
  F := T.map (·.1) ++ M.F
  I := fun G H => M.I G H ∧ TabG T G H
  up := fun ⟨i, tb⟩ g gh f x => ⟨M.up i g gh (fun a ha => f a (List.mem_append_right _ ha)) x, fun p hp => by
    obtain ⟨ps, h1, h2, h3⟩ := tb p hp
    refine ⟨ps, by rw [f p.1 (List.mem_append_left _ (List.mem_map.mpr ⟨p, hp, rfl⟩))]; exact h1, h2, fun pos cv hc => ?_⟩
    obtain ⟨c, e1, e2⟩ := h3 pos cv hc
    exact ⟨c, e1, g _ _ e2⟩⟩
  mix := fun ⟨i, _⟩ ⟨i2, tb⟩ g g2 gh x => ⟨M.mix i i2 g g2 gh x, fun p hp => by
    obtain ⟨ps, h1, h2, h3⟩ := tb p hp
    refine ⟨ps, h1, h2, fun pos cv hc => ?_⟩
    obtain ⟨c, e1, e2⟩ := h3 pos cv hc
    exact ⟨c, e1, x _ _ e2⟩⟩
/-- no table, no thing told by a sentence is among what others may change -/
def Nx (M : Md) : Prop := ∀ G H, M.I G H → ∀ a ∈ M.F, (∀ φ, H a ≠ some (.ext φ)) ∧ ∀ ps, H a ≠ some (.tbl ps)
theorem nx_0 : Nx Md0 := fun _ _ _ _ h => by cases h
theorem nx_S {st g c : Addr} {b : Nat} : Nx (MdS st g c b) := fun G H ⟨gs, cs, r, t, h1, h2, _⟩ a ha => by
  have z : a = st ∨ a = g := by simpa [MdS] using ha
  rcases z with rfl | rfl
  · exact ⟨fun _ q => (by rw [h1] at q; cases q), fun _ q => (by rw [h1] at q; cases q)⟩
  · exact ⟨fun _ q => (by rw [h2] at q; cases q), fun _ q => (by rw [h2] at q; cases q)⟩
theorem Le.tab {T : List (Addr × Str)} {M N : Md} (l : Le M N) : Le (MdT T M) (MdT T N) := ⟨by show _ ++ _ = _ ++ _; rw [l.f], fun G H ⟨i, t⟩ => ⟨l.i G H i, t⟩⟩
theorem Okk.untab {T : List (Addr × Str)} {M : Md} {G H : Hp} (o : Okk (MdT T M) G H) : Okk M G H := ⟨o.gh, o.sz, o.i.1, fun a ha => o.f a (List.mem_append_right _ ha)⟩
theorem Stt.untab {T : List (Addr × Str)} {M : Md} {G H H0 : Hp} {Γ : List Ent} {σ : St} (t : Stt (MdT T M) H0 Γ σ G H) : Stt M H0 Γ σ G H := ⟨t.ok.untab, t.len, fun i e h => by
  have nf : ∀ {a : Addr}, a ∉ (MdT T M).F → a ∉ M.F := fun q z => q (List.mem_append_right _ z)
  have q := t.ent i e h
  cases e with
  | any => trivial
  | val R x => exact q
  | adr a => exact q
  | own R xs => obtain ⟨a, vs, z1, z2, z3, z4, z5⟩ := q; exact ⟨a, vs, z1, z2, z3, nf z4, z5⟩
  | own2 U => obtain ⟨a, vs, z1, z2, z3, z4, z5⟩ := q; exact ⟨a, vs, z1, z2, z3, nf z4, z5⟩
  | obj a C fs => obtain ⟨dx, vs, z1, z2, z3, z4, z5, z6, z7, z8, z9⟩ := q; exact ⟨dx, vs, z1, z2, z3, z4, z5, z6, nf z7, nf z8, z9⟩, t.dis⟩
/-- what M's steps do leaves the tables -/
theorem Step.tab {T : List (Addr × Str)} {M N : Md} {G H G' H' : Hp} (o : Okk (MdT T M) G H) (nx : Nx M) (hF : M.F = N.F) (s : Step N G H G' H') : Step (MdT T N) G H G' H' := by
  have tb := o.i.2
  have keep : ∀ p ∈ T, ∀ ps, H p.1 = some (.tbl ps) → H' p.1 = some (.tbl ps) := fun p hp ps e => s.h _ _ (fun z => (nx G H o.i.1 p.1 (by rw [hF]; exact z)).2 ps e) e
  refine ⟨s.g, s.gh, s.sz, fun a u ha e => s.h a u (fun z => ha (List.mem_append_right _ z)) e, s.nw, ⟨s.i, fun p hp => ?_⟩, fun a ha => ?_⟩
  · obtain ⟨ps, h1, h2, h3⟩ := tb p hp
    refine ⟨ps, keep p hp ps h1, h2, fun pos cv hc => ?_⟩
    obtain ⟨c, e1, e2⟩ := h3 pos cv hc
    exact ⟨c, e1, s.g _ _ e2⟩
  · rcases List.mem_append.mp ha with h | h
    · obtain ⟨p, hp, rfl⟩ := List.mem_map.mp h
      obtain ⟨ps, h1, _⟩ := tb p hp
      rw [keep p hp ps h1]; exact fun z => nomatch z
    · exact s.f a h
section
variable {X : Cx} {T : List (Addr × Str)} {M N : Md} {Γ : List Ent} {e : Expr} {es : List Expr} {α : Type} {R : Rp α} {P : α → Prop} {A : List Ent → Prop} {b : Bool} {Pb : Bool → Prop} {xs : List α} {Pl : List α → Prop}
theorem EVt.tab (h : EVt X M N e Γ R P) (nx : Nx M := by first | exact nx_0 | exact nx_S | assumption) (hF : M.F = N.F := by first | rfl | assumption) : EVt X (MdT T M) (MdT T N) e Γ R P := fun H0 G H σ t Q k =>
  h H0 G H σ t.untab Q fun v x G' H' px s r => k v x G' H' px (s.tab t.ok nx hF) r
theorem TVp.tab (h : TVp X M e Γ Pb) (nx : Nx M := by first | exact nx_0 | exact nx_S | assumption) : TVp X (MdT T M) e Γ Pb := fun H0 G H σ t Q k =>
  h H0 G H σ t.untab Q fun b G' H' pb s => k b G' H' pb (s.tab t.ok nx rfl)
theorem EFt.tab (h : EFt X M N e Γ R Pl) (nx : Nx M := by first | exact nx_0 | exact nx_S | assumption) (hF : M.F = N.F := by first | rfl | assumption) : EFt X (MdT T M) (MdT T N) e Γ R Pl := fun H0 G H σ t Q k =>
  h H0 G H σ t.untab Q fun p vs zs G' H' pz s h1 h2 h3 r => k p vs zs G' H' pz (s.tab t.ok nx hF) h1 h2 h3 r
/-- lambda: .. -/
theorem pe_lam {c P : Addr} {params : Arguments} {body : Expr} {scope : Scope} {pos : Pos} (TB : LamX.TabB X.base X.mg c P) (hcode : X.env.code = .ref c) (hdef : defaultsOf params X.env = ([], [])) (hfree : X.Ok → ∀ y ∈ scope.names, y.2 = .free → ∃ c, X.env.cells.lookup y.1 = some c) :
    PE X (.Lambda params body scope pos) (fun σ H Q => ∃ ps : Array Value, H P = some (.tbl ps) ∧ TriplesOk ps.toList ∧
      (codeAmong pos ps.toList = none → ∀ (f c' : Addr) (pm ctv : Value), H f = none → H c' = none → f ≠ c' → Q (.ref f) (upd (upd (upd H P (.tbl (ps ++ #[rawInt pos.line, rawInt pos.col, .ref c']))) c' (LamX.CodeO c' (X.env.qual ++ "<lambda>"))) f (KnO (PySem.W.kla_obj "<lambda>" (X.env.qual ++ "<lambda>") params body scope (cloFrom X.env.cells scope.names []) pm c' ctv)))) ∧
      (∀ cv, codeAmong pos ps.toList = some cv → ∃ c', cv = .ref c' ∧ ∀ (f : Addr) (pm ctv : Value), H f = none → Q (.ref f) (upd H f (KnO (PySem.W.kla_obj "<lambda>" (X.env.qual ++ "<lambda>") params body scope (cloFrom X.env.cells scope.names []) pm c' ctv))))) := by
  refine ⟨fun pins s σ H Q I h => PySem.W.kla_eval hdef ?_⟩
  obtain ⟨ps, hP, ht, h1, h2⟩ := h
  have bP := TB.bm.keeps I.bk
  have hP' : s.heap.get? P = some { cls := .none, data := .fields ps } := I.hok P _ hP
  cases hc : codeAmong pos ps.toList with
  | none =>
    refine PySem.W.kla_makeFunction (mg := X.mg) (c := c) (P := P) (ps := ps) (closure_ok (hfree I.ok)) I.ok.glob (I.mod.glob.keeps I.bk) hcode (TB.code.keeps I.bk) hP' ht hc TB.gP bP fun c' ctv h' tk hx hge hlt hrec htb => ?_
    obtain ⟨c2, oc, vs, t, e2, hoc, hd, hv⟩ := hrec
    cases e2
    have I1 := LamX.inv_table (t' := tk) (q := X.env.qual ++ "<lambda>") (more := #[rawInt pos.line, rawInt pos.col, .ref c']) (h' := h') I hP (fun b o hb e => hx b o hb e) htb hge ⟨oc, vs, t, hoc, hd, hv⟩
    have nf := I1.hok.fresh (Nat.le_refl h'.objs.size)
    have hne : h'.objs.size ≠ c' := Nat.ne_of_gt hlt
    have hsz : s.heap.objs.size ≤ h'.objs.size := Nat.le_trans hge (Nat.le_of_lt hlt)
    exact ⟨.ref h'.objs.size, _, I1.laid (t' := tk) (a := h'.objs.size) (fun b o e => Heap.get?_push_of_some _ e) (Nat.le_refl _) (kno_ok (Heap.get?_push_size _ rfl)), rfl, h1 hc h'.objs.size c' _ ctv (I.hok.fresh hsz) (I.hok.fresh hge) hne⟩
  | some cv =>
    obtain ⟨c', rfl, hq⟩ := h2 cv hc
    refine PySem.W.kla_makeFunctionHit (mg := X.mg) (c := c) (P := P) (ps := ps) (closure_ok (hfree I.ok)) I.ok.glob (I.mod.glob.keeps I.bk) hcode (TB.code.keeps I.bk) hP' ht hc bP fun ctv h' tk hx hsz => ?_
    exact ⟨.ref h'.objs.size, _, I.laid (t' := tk) (a := h'.objs.size) (fun b o e => Heap.get?_push_of_some _ (hx b o e)) hsz (kno_ok (Heap.get?_push_size _ rfl)), rfl, hq h'.objs.size _ ctv (I.hok.fresh hsz)⟩
theorem ev_lam {c P : Addr} {params : Arguments} {body : Expr} {scope : Scope} {pos : Pos} (TB : LamX.TabB X.base X.mg c P) (hT : (P, X.env.qual ++ "<lambda>") ∈ T) (hu : ∀ p ∈ T, p.1 = P → p.2 = X.env.qual ++ "<lambda>") (L : LamX.LamS X.env.scope scope) (nx : Nx M := by first | exact nx_0 | exact nx_S | assumption)
    (hcode : X.env.code = .ref c := by rfl) (hdef : defaultsOf params X.env = ([], []) := by rfl) : EV X (MdT T M) (.Lambda params body scope pos) Γ (rLam X.env.qual X.env.cells) ⟨params, body, scope⟩ := fun H0 G H σ t Q k =>
  of_pe (pe_lam TB hcode hdef fun ok => L.has ok) (by
    have o := t.ok
    obtain ⟨ps, hP, ht, ha⟩ := o.i.2 _ hT
    have gP : G P = none := (o.f P (List.mem_append_left _ (List.mem_map.mpr ⟨_, hT, rfl⟩))).2
    refine ⟨ps, hP, ht, fun hn f c' pm ctv nf nc hne => ?_, fun cv hc => ?_⟩
    · obtain ⟨kn, ekn⟩ : ∃ u, u = KnO (PySem.W.kla_obj "<lambda>" (X.env.qual ++ "<lambda>") params body scope (cloFrom X.env.cells scope.names []) pm c' ctv) := ⟨_, rfl⟩
      obtain ⟨H', eH⟩ : ∃ H', H' = upd (upd (upd H P (.tbl (ps ++ #[rawInt pos.line, rawInt pos.col, .ref c']))) c' (LamX.CodeO c' (X.env.qual ++ "<lambda>"))) f kn := ⟨_, rfl⟩
      obtain ⟨G', eG⟩ : ∃ G', G' = upd (upd G c' (LamX.CodeO c' (X.env.qual ++ "<lambda>"))) f kn := ⟨_, rfl⟩
      have gc : G' c' = some (LamX.CodeO c' (X.env.qual ++ "<lambda>")) := by rw [eG, upd_ne (Ne.symm hne), upd_same]
      have gf : G' f = some kn := by rw [eG, upd_same]
      have hc' : H' c' = some (LamX.CodeO c' (X.env.qual ++ "<lambda>")) := by rw [eH, upd_ne (Ne.symm hne), upd_same]
      have hf : H' f = some kn := by rw [eH, upd_same]
      have neP : ∀ {b : Addr}, H b = none → b ≠ P := fun {b} e z => by rw [z, hP] at e; cases e
      have old : ∀ {b : Addr} {u : HO}, H b = some u → b ≠ f ∧ b ≠ c' := fun {b u} e => ⟨ne_of_none e nf, ne_of_none e nc⟩
      have hk : ∀ {b : Addr} {u : HO}, b ≠ P → H b = some u → H' b = some u := fun {b u} hb e => by rw [eH, upd_ne (old e).1, upd_ne (old e).2, upd_ne hb]; exact e
      have hPn : H' P = some (.tbl (ps ++ #[rawInt pos.line, rawInt pos.col, .ref c'])) := by rw [eH, upd_ne (Ne.symm (neP nf)), upd_ne (Ne.symm (neP nc)), upd_same]
      have gg : Same G G' := fun b u e => by
        have q := o.gh _ _ e
        rw [eG, upd_ne (old q).1, upd_ne (old q).2]; exact e
      have gh : Same G' H' := fun b u e => by
        by_cases h1 : b = f
        · rw [h1, gf] at e; rw [h1, hf]; exact e
        · by_cases h2 : b = c'
          · rw [h2, gc] at e; rw [h2, hc']; exact e
          · rw [eG, upd_ne h1, upd_ne h2] at e
            exact hk (fun z => by rw [z, gP] at e; cases e) (o.gh _ _ e)
      have sz : SzOk H' := by
        rw [eH, ekn]
        exact szOk_upd (szOk_upd (szOk_upd o.sz trivial) trivial) trivial
      have S : Step (MdT T M) G H G' H' := by
        refine ⟨gg, gh, sz, fun a u ha e => hk (fun z => ha (List.mem_append_left _ (List.mem_map.mpr ⟨_, hT, z.symm⟩))) e, fun a ha e => ?_, ⟨?_, fun p hp => ?_⟩, fun a ha => ?_⟩
        · rw [eG, upd_ne (fun z => ha (by rw [z]; exact nf)), upd_ne (fun z => ha (by rw [z]; exact nc))]; exact e
        · refine M.up o.i.1 gg gh (fun a ha => ?_) (fun a φ e => hk (fun z => by rw [z, hP] at e; cases e) e)
          have n2 := nx G H o.i.1 a ha
          cases q : H a with
          | none => exact absurd q (o.f a (List.mem_append_right _ ha)).1
          | some u => exact hk (fun z => n2.2 ps (by rw [z]; exact hP)) q
        · by_cases hb : p.1 = P
          · rw [hu p hp hb, hb]
            refine ⟨_, hPn, by rw [Array.toList_append]; exact PySem.TriplesOk_snoc _ _ _ _ ht, fun p' cv hcv => ?_⟩
            rw [Array.toList_append] at hcv
            rcases LamX.among_app _ ht hcv with z | z
            · obtain ⟨c0, e1, e2⟩ := ha p' cv z
              exact ⟨c0, e1, gg _ _ e2⟩
            · exact ⟨c', z, gc⟩
          · obtain ⟨ps', a1, a2, a3⟩ := o.i.2 p hp
            refine ⟨ps', hk hb a1, a2, fun p' cv hcv => ?_⟩
            obtain ⟨c0, e1, e2⟩ := a3 p' cv hcv
            exact ⟨c0, e1, gg _ _ e2⟩
        · by_cases hb : a = P
          · rw [hb, hPn]; exact fun z => nomatch z
          · cases q : H a with
            | none => exact absurd q (o.f a ha).1
            | some u => rw [hk hb q]; exact fun z => nomatch z
      rw [← ekn, ← eH]
      exact k _ _ G' H' rfl S ⟨f, c', pm, ctv, rfl, by rw [gf, ekn], gc⟩
    · obtain ⟨c', rfl, hg⟩ := ha pos cv hc
      refine ⟨c', rfl, fun f pm ctv nf => ?_⟩
      have sn := Step.new o (u := KnO (PySem.W.kla_obj "<lambda>" (X.env.qual ++ "<lambda>") params body scope (cloFrom X.env.cells scope.names []) pm c' ctv)) nf trivial
      exact k _ _ _ _ rfl sn ⟨f, c', pm, ctv, rfl, upd_same, sn.g _ _ hg⟩)
end
end RT

/-! RT36: a lambda's body in the defs that call it; calls of such defs. -/
namespace RT
open PySem L2
open PyProof.Rows (envOfC AllBare)
open LamX (LamS lamEnv lamCx)
/-- what a call of the lambda is worth in the context Z of its body -/
def RunOc (Z : Cx) (M : Md) (e : Expr) (Γ : List Ent) (oc : Oc) : Prop := ∀ (W : WX), Takes Z W → ∀ (H0 G H : Hp) (σ : St), Stt M H0 Γ σ G H →
  (∀ er cls d σ' G' H', oc = .err er → ErOk G' er cls d → Step M G H G' H' → W cls d σ' H') → ∀ Q : VK, (oc = .ret → ∀ v G' H', Step M G H G' H' → Q v H') → tOf Z e σ H Q
theorem run_err {Z : Cx} {M : Md} {e : Expr} {Γ : List Ent} {er : Er} (h : EX Z M e Γ er) : RunOc Z M e Γ (.err er) := fun W tk H0 G H σ t w Q _ =>
  h W tk H0 G H σ t (fun er' cls d σ' G' H' z => w er' cls d σ' G' H' (by rw [show er' = er from z])) Q fun _ _ _ _ z => z.elim
theorem run_ret {Z : Cx} {M : Md} {e : Expr} {Γ : List Ent} {α : Type} {R : Rp α} {P : α → Prop} (h : EVp Z M e Γ R P) : RunOc Z M e Γ .ret := fun W tk H0 G H σ t _ Q k => h H0 G H σ t Q fun v x G' H' _ s _ => k rfl v G' H' s
/-- own objects are of no use to others -/
def valE (Γ : List Ent) : List Ent := Γ.map fun e => match e with
  | .val R x => .val R x
  | .adr a => .adr a
  | _ => .any
theorem stt_vals {M M' : Md} {H0 H0' G H G' H' : Hp} {Γ : List Ent} {σ : St} (t : Stt M H0 Γ σ G H) (o : Okk M' G' H') (g : Same G G') : Stt M' H0' (valE Γ) σ G' H' := by
  have get : ∀ {i : Nat} {e : Ent}, (valE Γ)[i]? = some e → e = .any ∨ Γ[i]? = some e := fun {i e} h => by
    unfold valE at h
    rw [List.getElem?_map] at h
    cases q : Γ[i]? with
    | none => rw [q] at h; cases h
    | some u =>
      rw [q] at h
      cases u with
      | val R x => cases h; exact .inr rfl
      | adr a => cases h; exact .inr rfl
      | any => cases h; exact .inl rfl
      | own R xs => cases h; exact .inl rfl
      | own2 U => cases h; exact .inl rfl
      | obj a C fs => cases h; exact .inl rfl
  have noown : ∀ i, ¬ IsOwn (valE Γ)[i]? := fun i h => by
    unfold valE at h
    rw [List.getElem?_map] at h
    cases q : Γ[i]? with
    | none => rw [q] at h; exact h
    | some u => rw [q] at h; cases u <;> exact h
  refine ⟨o, by unfold valE; rw [List.length_map]; exact t.len, fun i e h => ?_, fun i j a _ h _ _ => absurd h (noown i)⟩
  rcases get h with rfl | q
  · trivial
  · have z := t.ent i e q
    cases e with
    | any => trivial
    | val R x => obtain ⟨v, h1, h2⟩ := z; exact ⟨v, h1, R.mono g h2⟩
    | adr a => exact z
    | own R xs => exact (noown i (by rw [h]; trivial)).elim
    | own2 U => exact (noown i (by rw [h]; trivial)).elim
    | obj a C fs => exact (noown i (by rw [h]; trivial)).elim
section
variable {X : Cx} {σ : St} {s1 : Shared} {HZ : Hp}
/-- the lambda's body begins -/
theorem lam_open {A : Around} {outer : List Env} {E : XK} {scope : Scope} {f c' : Addr} {h₁ : Heap} {tk : Nat} (ok : X.Ok) (len : σ.length = X.N.length) (L : LamS X.env.scope scope) (e0 : Env0 X.prog X.w X.K X.mg X.base A outer s1 HZ) (hd : A.handled = none)
    (cl : ∀ x c, X.env.cells.lookup x = some c → HZ c = none ∧ ∃ v, s1.heap.IsCell c v)
    (vl : ∀ (i : Nat) (x : Str) (v : V) (c : Addr), X.N[i]? = some x → σ[i]? = some (some v) → Vis X.env.scope x → X.env.scope.names.lookup x ≠ some .local → X.env.cells.lookup x = some c → ∃ u, RelV v u ∧ s1.heap.IsCell c (some u))
    (hns : h₁.Ns s1.heap.objs.size fun y => ([] : List (Str × Value)).reverse.lookup y) (kp : ∀ b o, s1.heap.get? b = some o → h₁.get? b = some o) :
    Inv (lamCx X A outer s1 HZ E scope f c') [] σ HZ { s1 with heap := h₁, toks := tk } := by
  have hfree := L.has ok
  have own_of : ∀ {y c}, (cloFrom X.env.cells scope.names []).lookup y = some c → X.env.cells.lookup y = some c := fun {y c} e => by
    rcases cloFrom_mem (PySem.mem_of_lookup e) with hm | ⟨h1, h2⟩
    · cases hm
    · obtain ⟨c1, hc⟩ := hfree _ h1 rfl
      have hc' : X.env.cells.lookup y = some c1 := hc
      rw [hc', show c = c1 from by rw [h2, hc'] <;> rfl]
  have cellK : ∀ {c : Addr} {v : Option Value}, s1.heap.IsCell c v → h₁.IsCell c v := fun ⟨o, ho, hd⟩ => ⟨o, kp _ _ ho, hd⟩
  have noA : ∀ b : Addr, b ∉ (lamCx X A outer s1 HZ E scope f c').ex := fun b z => absurd (show b ∈ ([] : List Addr) from z) (by simp)
  have frees : ∀ {y}, scope.names.lookup y = some .free → ∃ c, (cloFrom X.env.cells scope.names []).lookup y = some c := fun {y} hl => mem_lookup (cloFrom_has (cells := X.env.cells) (acc := []) (PySem.mem_of_lookup hl))
  have cap : ∀ {y}, scope.names.lookup y = some .free → X.env.scope.names.lookup y = some .cell ∨ X.env.scope.names.lookup y = some .free := fun {y} k => L.free _ (PySem.mem_of_lookup k) rfl
  refine ⟨⟨e0.mod, L.kind, rfl, rfl, Nat.le_refl _, fun y z c e1 e2 => ok.inj y z c (own_of e1) (own_of e2), fun y hy => ?_, (fun y c z _ => nomatch (show false = true from z)), fun _ => hd, Around.frames_deeper e0.frames, .inr ⟨rfl, rfl⟩, fun b z => absurd z (noA b), e0.bs, e0.bsz, fun b _ _ => noA b,
      fun b z => absurd z (noA b), e0.funs, e0.frf⟩,
    rfl, e0.bare, Un.kept kp, ⟨_, hns, fun i y v e1 e2 e3 => ?_⟩, fun y c e => ?_, e0.hok.fresh (Nat.le_refl _), fun y c e => (cl y c (own_of e)).1, fun q hq => absurd (show q ∈ ([] : List (Addr × Obj)) ++ [] from hq) (by simp), e0.hok.kept kp, len⟩
  · have hy' : scope.names.lookup y = some .cell ∨ scope.names.lookup y = some .free := hy
    rcases hy' with hy' | hy'
    · exact absurd rfl (L.own _ (PySem.mem_of_lookup hy')).2
    · exact frees hy'
  · rcases (show Vis scope y from e3) with k | k | k
    · exact absurd rfl (L.own _ (PySem.mem_of_lookup k)).1
    · exact absurd rfl (L.own _ (PySem.mem_of_lookup k)).2
    · obtain ⟨c2, h2⟩ := frees k
      have nl : X.env.scope.names.lookup y ≠ some .local := fun z => by
        rcases cap k with q | q <;> rw [q] at z <;> cases z
      obtain ⟨u, r, z⟩ := vl i y v c2 e1 e2 ((cap k).elim (fun q => .inr (.inl q)) fun q => .inr (.inr q)) nl (own_of h2)
      exact ⟨u, r, .inr ⟨.inr k, c2, h2, cellK z⟩⟩
  · obtain ⟨v, z⟩ := (cl y c (own_of e)).2
    exact ⟨v, cellK z⟩
end
/-- the cells of X's frame as they are known while others run -/
structure Pub (X : Cx) (σ : St) (Kc : Hp) : Prop where
  cell : ∀ x c, X.env.cells.lookup x = some c → ∃ ob v, Kc c = some (KnO ob) ∧ ob.data = .cell v ∧
    ∀ (i : Nat) (w : V), X.N[i]? = some x → σ[i]? = some (some w) → Vis X.env.scope x → X.env.scope.names.lookup x ≠ some .local → ∃ u, v = some u ∧ RelV w u
abbrev cellsOf (X : Cx) : Addr → Prop := fun c => ∃ x, X.env.cells.lookup x = some c
/-- an exception that left a frame without S -/
theorem cx_lay {P : Program} {w : World} {outer : List Env} {S : Addr → Prop} {H : Hp} {s : Shared} {E : XK} {u : Value} {s' : Shared} (hok : HOk P w H s.heap) (k : KnS S H) (nf : ∀ c, S c → c ∉ frs outer)
    (c : L2.CX P w outer (hide S H) s (fun cls d H' => (∀ c, S c → H' c = none) → E cls d (lay S H H')) u s') : L2.CX P w outer H s E u s' := by
  obtain ⟨a, B, H', cls, d, rfl, fl, hok', ub, na, os, ag, hE⟩ := c
  have hs : ∀ c, S c → ∃ o, H c = some (KnO o) ∧ s.heap.get? c = some o := fun c hc => by
    obtain ⟨o, q⟩ := k c hc
    exact ⟨o, q, (show ObjOk P w H s.heap c (KnO o) from hok c _ q).1⟩
  have hn : ∀ c, S c → H' c = none := fun c hc => let ⟨o, _, z⟩ := hs c hc; ub.free c o z (hide_in hc)
  have hB : ∀ c, S c → ∃ o, H c = some (KnO o) ∧ B.get? c = some o := fun c hc => let ⟨o, q, z⟩ := hs c hc; ⟨o, q, ub.keep c o z (hide_in hc) (nf c hc)⟩
  refine ⟨a, B, lay S H H', cls, d, rfl, fl, hok_lay hok' hB hn, ub_lay ub k, ?_, os, ag, hE hn⟩
  rw [lay_out fun hc => ?_]
  · exact na
  · obtain ⟨o, _, z⟩ := hB a hc
    rw [fl.2.1] at z; cases z
/-- a lambda, while the cells of its frame are known, is an action -/
theorem act_of_lam {X : Cx} {M : Md} {H0 G H Kc : Hp} {Γ : List Ent} {σ : St} {v : V} {ℓ : Lm} {oc : Oc} {k : Nat} (ok : X.Ok) (len : σ.length = X.N.length) (t : Stt M H0 Γ σ G H) (pb : Pub X σ Kc) (n : ∀ c, cellsOf X c → H c = none) (h : (rLam X.env.qual X.env.cells).rel G v ℓ)
    (L : LamS X.env.scope ℓ.scope) (hbind : ∀ (q : Str) (cl : List (Str × Addr)) (pm cv ctv : Value), bindArgs (PySem.W.kla_fn "<lambda>" q ℓ.params ℓ.body ℓ.scope cl pm cv ctv) ⟨[], []⟩ = pure [])
    (hbody : ∀ (A : Around) (outer : List Env) (s : Shared) (H : Hp) (E : XK) (f c' : Addr), Room k (A.deeper (lamEnv X ℓ.scope s.heap.objs.size f c')) → RunOc (lamCx X A outer s H E ℓ.scope f c') M ℓ.body (valE Γ) oc) :
    (rAct X.prog X.w X.K X.mg X.base M (k + 1)).rel (lay (cellsOf X) Kc G) v oc := by
  obtain ⟨f, c', pm, ctv, rfl, gf, gc⟩ := h
  have gn : ∀ {b : Addr} {u : HO}, G b = some u → ¬ cellsOf X b := fun {b u} e z => by have := t.ok.gh _ _ e; rw [n b z] at this; cases this
  refine ⟨f, _, rfl, by rw [lay_out (gn gf)]; exact gf, ⟨_, rfl⟩, fun G' H1 A outer s1 Q E sm o hr e0 hret herr => ?_⟩
  have g0 : Same G G' := fun b u e => sm b u (by rw [lay_out (gn e)]; exact e)
  have kS : KnS (cellsOf X) G' := fun c ⟨x, hx⟩ => by
    obtain ⟨ob, v, q, _⟩ := pb.cell x c hx
    exact ⟨ob, sm c _ (by rw [lay_in ⟨x, hx⟩]; exact q)⟩
  have kH : KnS (cellsOf X) H1 := fun c hc => let ⟨ob, q⟩ := kS c hc; ⟨ob, o.gh _ _ q⟩
  have nfr : ∀ c, cellsOf X c → c ∉ frs outer := fun c hc z => by
    obtain ⟨ob, q⟩ := kH c hc
    rw [e0.frf c z] at q; cases q
  have n0 : ∀ c, cellsOf X c → G c = none := fun c hc => t.ok.gh.free (n c hc)
  have om := okk_hide o t.ok.i g0 n0 kS
  have e1 : Env0 X.prog X.w X.K X.mg X.base A outer s1 (hide (cellsOf X) H1) := ⟨e0.frames, e0.mod, fun b ob e => ⟨(e0.bs b ob e).1, hide_none (e0.bs b ob e).2⟩, e0.bsz, e0.funs, fun b hb => hide_none (e0.frf b hb), hok_hide e0.hok kH, e0.bare⟩
  obtain ⟨hf, _⟩ := (show ObjOk X.prog X.w H1 s1.heap f (KnO _) from e0.hok f _ (o.gh _ _ (g0 _ _ gf)))
  obtain ⟨⟨ocd, vs, tt, hoc, hdc, hvc⟩, _, _⟩ := e0.hok c' _ (o.gh _ _ (g0 _ _ gc))
  refine PySem.W.kla_callFunE hr.depth hf rfl L.co L.gen rfl ⟨c', ocd, vs, tt, rfl, hoc, hdc, hvc⟩ ?_
  rw [hbind]
  have lim : s1.heap.NoLimit := e0.mod.nolimit.keeps fun b ob e => (e0.bs b ob e).1
  refine wpAny_pure (wpAny_newFunctionEnv (fun y hy => (L.own y hy).2) (fun y hy => absurd hy (by simp)) (fun h₁ hns hsb => ⟨lim.fresh _ hsb, ?_⟩) L.kind)
  show codeAny _ _ (.expr ℓ.body (lamEnv X ℓ.scope s1.heap.objs.size f c')) _ _
  have kp : ∀ b ob, s1.heap.get? b = some ob → h₁.get? b = some ob := fun b ob e => hsb.extBut b ob (Nat.ne_of_lt (Heap.lt_size e)) (Heap.get?_push_of_some _ e)
  have cellAt : ∀ x c, X.env.cells.lookup x = some c → ∃ ob v, s1.heap.get? c = some ob ∧ ob.data = .cell v ∧ ∀ (i : Nat) (w : V), X.N[i]? = some x → σ[i]? = some (some w) → Vis X.env.scope x → X.env.scope.names.lookup x ≠ some .local → ∃ u, v = some u ∧ RelV w u := fun x c hx => by
    obtain ⟨ob, v, q, hd, hv⟩ := pb.cell x c hx
    have z := o.gh _ _ (sm c _ (by rw [lay_in ⟨x, hx⟩]; exact q))
    exact ⟨ob, v, (show ObjOk X.prog X.w H1 s1.heap c (KnO ob) from e0.hok c _ z).1, hd, hv⟩
  have J := lam_open (tk := s1.toks + ([] : List (Str × Value)).length) (h₁ := h₁) (f := f) (c' := c') (E := fun cls d H' => (∀ c, cellsOf X c → H' c = none) → E cls d (lay (cellsOf X) H1 H')) ok len L e1 hr.hd
    (fun x c hx => ⟨hide_in ⟨x, hx⟩, let ⟨ob, v, z, hd, _⟩ := cellAt x c hx; ⟨v, ob, z, hd⟩⟩)
    (fun i x w c h1 h2 h3 h4 hx => by
      obtain ⟨ob, v, z, hd, hv⟩ := cellAt x c hx
      obtain ⟨u, rfl, r⟩ := hv i w h1 h2 h3 h4
      exact ⟨u, r, ob, z, hd⟩) hns kp
  have tv : Stt M H0 (valE Γ) σ (hide (cellsOf X) G') (hide (cellsOf X) H1) := stt_vals t om fun b u e => by rw [hide_out (gn e)]; exact g0 _ _ e
  have run := hbody A outer s1 (hide (cellsOf X) H1) (fun cls d H' => (∀ c, cellsOf X c → H' c = none) → E cls d (lay (cellsOf X) H1 H')) f c' (hr.deeper _) _ (takes_of rfl rfl rfl rfl) H0 _ _ σ tv
    (fun er cls d σ' G2 H2 e ho st hn => herr er e cls d _ _ (ho.mono (step_lay o st kS hn).2) (step_lay o st kS hn).1)
    (fun v H2 => (∀ c, cellsOf X c → H2 c = none) → Q v (lay (cellsOf X) H1 H2)) (fun e v G2 H2 st hn => hret e v _ _ (step_lay o st kS hn).1)
  refine PySem.W.kla_codeExpr (wpAny_mono (run.run [] _ J) (fun v s' hq => ?_) fun e s' hq => wpAny_mono hq (fun _ s'' z => cx_lay e0.hok kH nfr z) fun _ s'' z => cx_lay e0.hok kH nfr z)
  obtain ⟨w', H', J', rv, q⟩ := hq
  have un := J'.base
  have hs : ∀ c, cellsOf X c → ∃ ob, H1 c = some (KnO ob) ∧ s1.heap.get? c = some ob := fun c hc => by
    obtain ⟨ob, z⟩ := kH c hc
    exact ⟨ob, z, (show ObjOk X.prog X.w H1 s1.heap c (KnO ob) from e0.hok c _ z).1⟩
  have hn : ∀ c, cellsOf X c → H' c = none := fun c hc => let ⟨ob, _, z⟩ := hs c hc; un.free c ob z (hide_in hc) (fun z => nomatch z)
  exact ⟨w', lay (cellsOf X) H1 H', J'.os, J'.bare, un_lay un kH, hok_lay J'.hok (fun c hc => let ⟨ob, q, z⟩ := hs c hc; ⟨ob, q, un.keep c ob z (hide_in hc) (nfr c hc) (fun z => nomatch z)⟩) hn, rv, q hn⟩
end RT

/-! RT37: calls of defs that get lambdas; defs that make lambdas; the law's own call with tables. -/
namespace RT
open PySem L2
open PyProof.Rows (envOfC AllBare)
open LamX (LamS lamEnv lamCx)
/-- what is asked of a lambda in the frame X: its names, and what its body is worth -/
structure LamOk (X : Cx) (M : Md) (Γ : List Ent) (k : Nat) (ℓ : Lm) (oc : Oc) : Prop where
  sc : LamS X.env.scope ℓ.scope
  bind : ∀ (q : Str) (cl : List (Str × Addr)) (pm cv ctv : Value), bindArgs (PySem.W.kla_fn "<lambda>" q ℓ.params ℓ.body ℓ.scope cl pm cv ctv) ⟨[], []⟩ = pure []
  body : ∀ (A : Around) (outer : List Env) (s : Shared) (H : Hp) (E : XK) (f c' : Addr), Room k (A.deeper (lamEnv X ℓ.scope s.heap.objs.size f c')) → RunOc (lamCx X A outer s H E ℓ.scope f c') M ℓ.body (valE Γ) oc
/-- what is told stays told where S is hidden -/
def Stable {α : Type} (R : Rp α) : Prop := ∀ (S : Addr → Prop) (G : Hp) (v : V) (x : α), KnS S G → R.rel G v x → R.rel (hide S G) v x
theorem st_int : Stable rInt := fun _ _ _ _ _ h => h
theorem st_bool : Stable rBool := fun _ _ _ _ _ h => h
theorem st_str : Stable rStr := fun _ _ _ _ _ h => h
theorem st_none : Stable rNone := fun _ _ _ _ _ h => h
theorem KnS.rdL {S : Addr → Prop} {G : Hp} {a : Addr} {vs : List V} (k : KnS S G) (h : Rd G a (.tup vs)) : Rd (hide S G) a (.tup vs) := by
  rcases h with h | ⟨o, h⟩
  · exact .inl (k.keep h (fun _ _ q => nomatch q))
  · exact .inr ⟨o, k.keep h (fun _ _ q => nomatch q)⟩
theorem st_vl : Stable rVl := fun S G v x k h => match x, h with
  | .int _, h => h
  | .non, h => h
  | .str _, h => h
  | .tup _, ⟨a, vs, h1, h2, h3⟩ => ⟨a, vs, h1, k.rdL h2, paired_imp (fun _ _ q => q) h3⟩
theorem st_err : Stable rErr := fun S G v er k ⟨a, d, h1, h2, h3⟩ => ⟨a, d, h1, k.keep h2 (fun _ _ q => nomatch q), h3.elim .inl fun ⟨dd, vs, e1, e2, e3⟩ => .inr ⟨dd, vs, e1, k.keep e2 (fun _ _ q => nomatch q), fun f x q => let ⟨v, a, b⟩ := e3 f x q; ⟨v, a, st_vl S G v x k b⟩⟩⟩
section
variable {X : Cx} {M : Md} {Γ : List Ent} {x : Str} {k kl : Nat} {f : Addr} {fd : FuncData} {ps : List Str} {C : Ctr} {e : Expr} {es : List Expr} {p pos : Pos} {A : List Ent → Prop} {α : Type} {R : Rp α} {P : α → Prop}
/-- f(.. lambda ..) -/
theorem ev_callLP (D : Def X x k f fd ps C) (hr : Room k X.A) (hfn : ∀ y, X.fn y = true) (ha : EAp X M (e :: es) Γ A)
    (hc : ∀ as, A as → ∀ (G Kc : Hp) (vs : List V), (∀ ℓ oc v, LamOk X M Γ kl ℓ oc → (rLam X.env.qual X.env.cells).rel G v ℓ → (rAct X.prog X.w X.K X.mg X.base M (kl + 1)).rel (lay (cellsOf X) Kc G) v oc) → Same G (lay (cellsOf X) Kc G) → ArgsOk G vs as →
      ∃ as' res, ArgsOk (lay (cellsOf X) Kc G) vs as' ∧ C M as' res ∧ ∀ u, res u → ∃ y, P y ∧ u = .val R y) (hst : Stable R) (hg : Gl X x := by rfl)
    (hdb : (x == ("__debug__" : Str)) = false := by decide) (he : starEach (e :: es) X.env = (false, eval e X.env) :: starEach es X.env := by rfl) (hpl : (backTo pos (starEach es X.env)).any (·.1) = false := by rfl) :
    EVp X M (.Call (.Name x p) (e :: es) [] pos) Γ R P := fun H0 G H σ t Q kq => ⟨fun pins s I => by
  refine wpAny_Call_Name_kw (ld_glob I hg D.mg ?_ hdb)
  refine PySem.W.callWith_K (h₀ := X.base) I.ok.mod.kin D.kp (thn ((ha H0 G H σ t (fun vs H1 => ∃ as G1, A as ∧ Step M G H G1 H1 ∧ ArgsOk G1 vs as) fun vs as G' H' hA s ar => ⟨as, G', hA, s, ar⟩).run pos pins s I) fun us s1 ⟨vs, H1, I1, r, as, G1, hA, st, ar⟩ => ⟨I1.kIn, ?_⟩) he hpl
  have t1 := t.step st
  have hcell : ∀ c, cellsOf X c → ∃ ob v, s1.heap.get? c = some ob ∧ ob.data = .cell v := fun c ⟨y, hy⟩ => let ⟨v, ob, h1, h2⟩ := I1.cell y c hy; ⟨ob, v, h1, h2⟩
  have hK : ∀ c ob, s1.heap.get? c = some ob → (fun b => (s1.heap.get? b).map KnO : Hp) c = some (KnO ob) := fun c ob e => by show (s1.heap.get? c).map KnO = _; rw [e]; rfl
  obtain ⟨Kc, eK⟩ : ∃ Kc : Hp, Kc = fun b => (s1.heap.get? b).map KnO := ⟨_, rfl⟩
  rw [← eK] at hK
  have hS : ∀ c, cellsOf X c → ∃ ob, Kc c = some (KnO ob) ∧ s1.heap.get? c = some ob := fun c hc => let ⟨ob, _, h1, _⟩ := hcell c hc; ⟨ob, hK c ob h1, h1⟩
  have hS' : ∀ c, cellsOf X c → ∃ ob, Kc c = some (KnO ob) := fun c hc => let ⟨ob, h, _⟩ := hS c hc; ⟨ob, h⟩
  have n1 : ∀ c, cellsOf X c → H1 c = none := fun c ⟨y, hy⟩ => I1.freeC y c hy
  have above : ∀ c, cellsOf X c → X.s_0.heap.objs.size ≤ c := fun c ⟨y, hy⟩ => I1.ok.cab y c (hfn y) hy
  have nfr : ∀ c, cellsOf X c → c ∉ frs X.stack := fun c ⟨y, hy⟩ z => by
    rcases List.mem_cons.mp (I1.stkSub c z) with q | q
    · exact I1.cne y c hy q
    · obtain ⟨_, o, ho, _⟩ := I1.ok.funs.mem q
      exact absurd (Nat.lt_of_lt_of_le (Heap.lt_size ho) (above c ⟨y, hy⟩)) (Nat.lt_irrefl _)
  have pb : Pub X σ Kc := ⟨fun y c hy => by
    obtain ⟨ob, v, h1, h2⟩ := hcell c ⟨y, hy⟩
    refine ⟨ob, v, hK c ob h1, h2, fun i w e1 e2 e3 e4 => ?_⟩
    obtain ⟨m, _, hl⟩ := I1.loc
    obtain ⟨u, ru, q⟩ := hl i y w e1 e2 e3
    rcases q with ⟨kl', _⟩ | ⟨_, c2, h3, ob2, h4, h5⟩
    · exact absurd (show X.env.scope.names.lookup y = some .local from kl') e4
    · rw [hy] at h3; cases h3
      rw [h1] at h4; cases h4
      rw [h2] at h5; cases h5
      exact ⟨u, rfl, ru⟩⟩
  have g1 : Same G1 (lay (cellsOf X) Kc G1) := fun b u e => by rw [lay_out fun z => by have := t1.ok.gh _ _ e; rw [n1 b z] at this; cases this]; exact e
  obtain ⟨as', res, ar', hcc, hres⟩ := hc as hA G1 Kc vs (fun ℓ oc v L h => act_of_lam I1.ok I1.len t1 pb n1 h L.sc L.bind L.body) g1 ar
  have e0 := I1.env0
  have e1 : Env0 X.prog X.w X.K X.mg X.base X.A X.stack s1 (lay (cellsOf X) Kc H1) := ⟨e0.frames, e0.mod, fun b ob e => ⟨(e0.bs b ob e).1, by
      rw [lay_out fun z => ?_]
      · exact (e0.bs b ob e).2
      · exact absurd (Nat.lt_of_lt_of_le (Heap.lt_size e) (Nat.le_trans I1.ok.bsz (above b z))) (Nat.lt_irrefl _)⟩, e0.bsz, e0.funs, fun b hb => by rw [lay_out fun z => nfr b z hb]; exact e0.frf b hb, hok_lay e0.hok hS n1, e0.bare⟩
  have hsp : spC C vs (lay (cellsOf X) Kc H1) (fun v H2 => Q v (hide (cellsOf X) H2)) E0 := ⟨M, lay (cellsOf X) Kc G1, as', res, hcc, okk_lay t1.ok hS' n1, ar', fun R' y v G2 H2 hr' s2 r2 => by
    obtain ⟨y', py, ey⟩ := hres _ hr'
    cases ey
    exact kq v y' _ _ py (st.trans (step_hide t1.ok s2 hS' n1)) (hst _ _ _ _ (fun c hc => let ⟨ob, q⟩ := hS' c hc; ⟨ob, s2.g c _ (by rw [lay_in hc]; exact q)⟩) r2)⟩
  have hlen : us.length = ps.length := by rw [← r.length]; exact D.ok.len _ _ _ _ hsp
  have bd := D.bd s1 us I1.kIn (by rw [List.append_nil]; exact hlen)
  rw [List.append_nil] at bd
  refine wpAny_call (codeAny_mono (D.ok.run X.A X.stack s1 _ ⟨us, []⟩ us vs _ E0 hr e1 bd r hsp) fun r' s' hq => ?_)
  match r', hq with
  | .ok (.ret u), ⟨v, H2, os, bare, un, hok', rv, q⟩ => exact I1.after ⟨v, hide (cellsOf X) H2, os, bare, un_hide un hok' hS n1 nfr, hok_hide hok' (fun c hc => let ⟨ob, q⟩ := hS' c hc; ⟨ob, un.frzs c ob _ (by rw [lay_in hc]; exact q)⟩), rv, q⟩⟩
end
/-- lambdas in a list -/
theorem lams_acts {X : Cx} {M : Md} {Γ : List Ent} {kl : Nat} {G G' : Hp} {R' : Rp Oc} (h : ∀ ℓ oc v, LamOk X M Γ kl ℓ oc → (rLam X.env.qual X.env.cells).rel G v ℓ → R'.rel G' v oc) : ∀ {vs : List V} {ls : List Lm} {ocs : List Oc}, Paired ((rLam X.env.qual X.env.cells).rel G) vs ls → Paired (LamOk X M Γ kl) ls ocs → Paired (R'.rel G') vs ocs
  | _, _, _, .nil, .nil => .nil
  | _, _, _, .cons a t, .cons b u => .cons (h _ _ _ b a) (lams_acts h t u)
/-! ### defs that make lambdas: their code object is known -/
structure FunC (K : PySem.W.Frag) (x qual : Str) (st : Stmt) (f : Addr) (fd : FuncData) (c : Addr) : Prop where
  ex : ∃ (oc : Value) (od : Option Addr) (kV doc pm : Value) (an : Option Addr) (ct : Value) (osl : Array (Option Value)),
    fd = PySem.W.fnOf x qual (defArgs st) (defBody st) (defScope st) .none kV doc pm an (.ref c) ct ∧ K.lookup f = some ⟨oc, od, .func fd, osl⟩ ∧ PySem.W.codeIn K (.ref c) qual = true
theorem funC_mk {K : PySem.W.Frag} {x qual : Str} {st : Stmt} {f c : Addr} {oc : Value} {od an : Option Addr} {osl : Array (Option Value)} {kV doc pm ct : Value} (l : K.lookup f = some ⟨oc, od, .func (PySem.W.fnOf x qual (defArgs st) (defBody st) (defScope st) .none kV doc pm an (.ref c) ct), osl⟩)
    (cd : PySem.W.codeIn K (.ref c) qual = true) : FunC K x qual st f (PySem.W.fnOf x qual (defArgs st) (defBody st) (defScope st) .none kV doc pm an (.ref c) ct) c := ⟨⟨oc, od, kV, doc, pm, an, ct, osl, rfl, l, cd⟩⟩
section
variable {P : Program} {w : World} {K : PySem.W.Frag} {mg : Str → Option Value} {base : Heap}
theorem fnC_mk {x qual : Str} {st : Stmt} {f c : Addr} {fd : FuncData} {N ps : List Str} {k : Nat} {C : Ctr} (F : FunC K x qual st f fd c) (S : FnScope N ps (defScope st)) (hl : ∀ M as res, C M as res → as.length = ps.length)
    (hbody : ∀ (A : Around) (outer : List Env) (s : Shared) (H : Hp) (E : XK), Room k (A.deeper (envOfC qual (defScope st) s.heap.objs.size f (.ref c))) → ∀ M as res, C M as res →
      SS (cxOf CX0 P w K mg base N qual (defScope st) f (.ref c) A outer s H E).nox M (defBody st) (as ++ List.replicate (N.length - ps.length) Ent.any) { nx := fun _ => res (.val rNone ()), rt := res }) : FnOk P w K mg base CX0 (k + 1) f fd ps (spC C) := by
  have hN : ps.length ≤ N.length := by have := congrArg List.length S.pre; rw [List.length_take] at this; omega
  obtain ⟨oc, od, kV, doc, pm, an, ct, osl, rfl, lk, hcd⟩ := F.ex
  refine fn_of lk hcd S (fun vs H Q E ⟨M, G, as, res, hc, _, ha, _⟩ => by rw [ha.1, hl M as res hc]) fun A outer s H vs Q E hr ⟨M, G, as, res, hc, o, ha, hq⟩ => ⟨_, (PSs.nox pss_of), ?_⟩
  have hal := hl M as res hc
  have t := stt_start (N := N) o ha (by rw [hal]; exact hN)
  rw [hal] at t
  exact hbody A outer s H E hr M as res hc G H G H _ _ t (Step.refl o) ⟨fun Γ σ G' H' n t' s' => hq rNone () .non G' H' n s' rfl, fun R x v G' H' p s' r => hq R x v G' H' p s' r, fun _ _ _ _ z => z.elim, fun _ _ _ _ z => z.elim⟩
theorem fnSC_mk {x qual : Str} {st : Stmt} {f c : Addr} {fd : FuncData} {N ps : List Str} {k : Nat} {C : CtrS} (F : FunC K x qual st f fd c) (S : FnScope N ps (defScope st)) (hl : ∀ M M' as res, C M M' as res → as.length = ps.length)
    (hbody : ∀ (A : Around) (outer : List Env) (s : Shared) (H : Hp) (E : XK), Room k (A.deeper (envOfC qual (defScope st) s.heap.objs.size f (.ref c))) → ∀ M M' as res, C M M' as res →
      SSt (cxOf CX0 P w K mg base N qual (defScope st) f (.ref c) A outer s H E).nox M M' (defBody st) (as ++ List.replicate (N.length - ps.length) Ent.any) { nx := fun _ => res (.val rNone ()), rt := res }) : FnOk P w K mg base CX0 (k + 1) f fd ps (spS C) := by
  have hN : ps.length ≤ N.length := by have := congrArg List.length S.pre; rw [List.length_take] at this; omega
  obtain ⟨oc, od, kV, doc, pm, an, ct, osl, rfl, lk, hcd⟩ := F.ex
  refine fn_of lk hcd S (fun vs H Q E ⟨M, M', G, as, res, _, hc, _, ha, _⟩ => by rw [ha.1, hl M M' as res hc]) fun A outer s H vs Q E hr ⟨M, M', G, as, res, hF, hc, o, ha, hq⟩ => ⟨_, (PSs.nox pss_of), ?_⟩
  have hal := hl M M' as res hc
  have t := stt_start (N := N) o ha (by rw [hal]; exact hN)
  rw [hal] at t
  exact hbody A outer s H E hr M M' as res hc G H G H _ _ t (Step.refl o) ⟨fun Γ σ G' H' n t' s' => hq rNone () .non G' H' n s' rfl, fun R x v G' H' p s' r => hq R x v G' H' p s' r, fun _ _ _ _ z => z.elim, fun _ _ _ _ z => z.elim⟩
/-- .. of which no guard stands around: the law's own -/
theorem fnGC_mk {x qual : Str} {st : Stmt} {f c : Addr} {fd : FuncData} {N ps : List Str} {k : Nat} {C : Ctr} (F : FunC K x qual st f fd c) (S : FnScope N ps (defScope st)) (hl : ∀ M as res, C M as res → as.length = ps.length)
    (hbody : ∀ (A : Around) (outer : List Env) (s : Shared) (H : Hp) (E : XK), Room k (A.deeper (envOfC qual (defScope st) s.heap.objs.size f (.ref c))) → A.guards = some [] → ∀ M as res, C M as res →
      SS (cxOf CX0 P w K mg base N qual (defScope st) f (.ref c) A outer s H E).nox M (defBody st) (as ++ List.replicate (N.length - ps.length) Ent.any) { nx := fun _ => res (.val rNone ()), rt := res }) : FnG P w K mg base (k + 1) f fd ps (spC C) := by
  have hN : ps.length ≤ N.length := by have := congrArg List.length S.pre; rw [List.length_take] at this; omega
  obtain ⟨oc, od, kV, doc, pm, an, ct, osl, rfl, lk, hcd⟩ := F.ex
  intro A outer s H args us vs Q hr hgd e0 hb rv hlv hsp
  refine StX.run_bnd (G := fun xs H2 => xs = vs ∧ H2 = H) (E := E0) lk hcd S hr e0 (fun A' Ex Q' h => hb _ _ _ _ (h s H vs us e0 Un.refl rfl (fun _ _ z => z) rv hlv ⟨rfl, rfl⟩)) fun s2 H2 xs ⟨e1, e2⟩ hr' => ?_
  subst e1; subst e2
  obtain ⟨M, G, as, res, hc, o, ha, hq⟩ := hsp
  have hal := hl M as res hc
  have t := stt_start (N := N) o ha (by rw [hal]; exact hN)
  rw [hal] at t
  refine ⟨sOf (cxOf CX0 P w K mg base N qual (defScope st) f (.ref c) A outer s2 H2 E0).nox (defBody st), PSs.nox pss_of, ?_⟩
  exact hbody A outer s2 H2 E0 hr' hgd M as res hc G H2 G H2 _ _ t (Step.refl o) ⟨fun Γ σ G' H' n t' s' => hq rNone () .non G' H' n s' rfl, fun R x v G' H' p s' r => hq R x v G' H' p s' r, fun _ _ _ _ z => z.elim, fun _ _ _ _ z => z.elim⟩
end
end RT

/-! RT38: the law's state begins, tables beside it; the law's own call with tables; the end of a law row with tables. -/
namespace RT
open PySem L2
open PyProof.Rows (envOfC AllBare)
section
variable {X : Cx} {T : List (Addr × Str)} {Γ : List Ent} {rest : List Stmt} {pos cp np py : Pos} {Po : Post} {a : Expr} {nm y : Str} {f : Addr} {fd : FuncData} {ps : List Str} {k : Nat} {ns : List Int}
/-- state = _law_begun(script), tables beside it -/
theorem ss_beginT (i : Nat) (D : DefB X nm k f fd ps) (hr : Room k X.A) (hNd : X.N.Nodup) (ha : EV X Md0 a Γ (rScr X.K) ns) (hz : ns.length ≤ 16777216) (B : Nat) (hrest : ∀ st g c, SSt X (MdT T (MdS st g c 0)) (MdT T (MdS st g c B)) rest (Γ.set i (.adr st)) { rt := Po.rt })
    (hi : X.N[i]? = some y := by rfl) (hx : Loc X.env.scope y := by first | exact Or.inl rfl | exact Or.inr rfl) (hs : swapsWith (.Call (.Name nm np) [a] [] cp) (some (.Name y py)) pos.line X.env = pure false := by rfl) (hf : X.fn y = true ∨ X.env.scope.names.lookup y = some .local := by first | exact .inl rfl | exact .inr rfl | assumption)
    (hg : Gl X nm := by rfl) (hdb : (nm == ("__debug__" : Str)) = false := by decide) (he : starEach [a] X.env = (false, eval a X.env) :: starEach [] X.env := by rfl) (hpl : (backTo cp (starEach [] X.env)).any (·.1) = false := by rfl) :
    SS X (MdT T Md0) (.Assign [.Name y py] (.Call (.Name nm np) [a] [] cp) pos :: rest) Γ Po := fun G0 H0 G H σ Dn t s mt =>
  of_pss (pss_cons ps_of pss_of) (of_ps (ps_set (i := i) hNd hi hx pe_of hs hf) (of_pe (pe_call (E := E0) D.ok hr hg D.mg D.kp D.bd .nil pass0 (pa_cons pe_of pa_nil he) hdb he hpl) (ha H0 G H σ t.untab _ fun v ns' G1 H1 e1 s1 r1 => by
    subst e1
    have s1t := s1.tab t.ok nx_0 rfl
    have t1 := t.step s1t
    have s' := s.trans s1t
    refine ⟨G1, v, ns', rfl, r1, hz, t1.ok.untab, fun st g c G2 H2 s2 hI h1 h2 h3 h4 => ?_⟩
    have s2t := s2.tab t1.ok nx_0 rfl
    have t2 := t1.step s2t
    have S := s'.trans s2t
    have fr : ∀ {b : Addr} {u : HO}, H1 b = some u → b ∉ [st, g] := fun {b u} e z => by
      have z' : b = st ∨ b = g := by simpa using z
      rcases z' with q | q
      · rw [q, h1] at e; cases e
      · rw [q, h2] at e; cases e
    have frT : ∀ {b : Addr} {u : HO}, H1 b = some u → b ∉ (MdT T Md0).F → b ∉ (MdT T (MdS st g c 0)).F := fun {b u} e z q => by
      rcases List.mem_append.mp q with h | h
      · exact z (List.mem_append_left _ h)
      · exact fr e h
    obtain ⟨gs, cs, r, tt, i1, i2, i3, i4⟩ := id hI
    have ok : Okk (MdT T (MdS st g c 0)) G2 H2 := ⟨t2.ok.gh, t2.ok.sz, ⟨hI, t2.ok.i.2⟩, fun b hb => by
      rcases List.mem_append.mp hb with h | h
      · exact t2.ok.f b (List.mem_append_left _ h)
      · have z' : b = st ∨ b = g := by simpa [MdS] using h
        rcases z' with q | q
        · rw [q]; exact ⟨fun z => (by rw [i1] at z; cases z), h3⟩
        · rw [q]; exact ⟨fun z => (by rw [i2] at z; cases z), h4⟩⟩
    have tS : Stt (MdT T (MdS st g c 0)) H0 Γ σ G2 H2 := ⟨ok, t2.len, fun j e hj => by
      have q1 := t1.ent j e hj
      have q := t2.ent j e hj
      cases e with
      | any => trivial
      | val R' x' => exact q
      | adr a => exact q
      | own R' xs' =>
        obtain ⟨b, ws, z1, z2, z3, z4, z5, z6⟩ := q
        obtain ⟨b', ws', y1, y2, _⟩ := q1
        rw [z1] at y1; cases y1
        exact ⟨b, ws, z1, z2, z3, frT y2 z4, z5, z6⟩
      | own2 U =>
        obtain ⟨b, ws, z1, z2, z3, z4, z5, z6⟩ := q
        obtain ⟨b', ws', y1, y2, _⟩ := q1
        rw [z1] at y1; cases y1
        exact ⟨b, ws, z1, z2, z3, frT y2 z4, z5, z6⟩
      | obj b C fs =>
        obtain ⟨dx, ws, z1, z2, z3, z4, z5, z6, z7, z8, z9, z10, z11⟩ := q
        obtain ⟨dx', ws', y1, y2, y3, _⟩ := q1
        have e1 := s2.h b _ (fun z => by cases z) y2
        rw [z2] at e1; cases e1
        exact ⟨dx, ws, z1, z2, z3, z4, z5, z6, frT y2 z7, frT y3 z8, z9, z10, z11⟩, t2.dis⟩
    have tP : Stt (MdT T (MdS st g c 0)) H0 (Γ.set i (.adr st)) (σ.set i (some (V.ref st))) G2 H2 := tS.put (fun hl => List.getElem?_set_self (by rw [tS.len]; exact hl)) (fun z => z.elim)
    have SS' : Step (MdT T (MdS st g c 0)) G0 H0 G2 H2 := ⟨S.g, S.gh, S.sz, fun a o ha e => S.h a o (fun z => (List.mem_append.mp z).elim (fun q => ha (List.mem_append_left _ q)) fun q => nomatch q) e, S.nw, ⟨hI, t2.ok.i.2⟩, fun a ha => (ok.f a ha).1⟩
    have H0st : H0 st = none := s'.fresh h1
    have H0g : H0 g = none := s'.fresh h2
    refine hrest st g c G0 H0 G2 H2 _ _ tP SS' ⟨fun _ _ _ _ z => z.elim, fun R' x' v' G3 H3 hrt s3 r3 => mt.rt R' x' v' G3 H3 hrt ⟨s3.g, s3.gh, s3.sz, fun b o hb e => s3.h b o (fun z => ?_) e, s3.nw, ⟨trivial, s3.i.2⟩, fun a ha => s3.f a ((List.mem_append.mp ha).elim (fun q => List.mem_append_left _ q) fun q => nomatch q)⟩ r3, fun _ _ _ _ z => z.elim, fun _ _ _ _ z => z.elim⟩
    rcases List.mem_append.mp z with h | h
    · exact hb (List.mem_append_left _ h)
    · have z' : b = st ∨ b = g := by simpa [MdS] using h
      rcases z' with q | q
      · rw [q, H0st] at e; cases e
      · rw [q, H0g] at e; cases e)))
end
/-! ### the law's own call -/
/-- H knows the script and the tables alone -/
structure LoneT (cs : List (Addr × Addr)) (H : Hp) (a : Addr) (o : Obj) (xs : List V) : Prop where
  at_ : H a = some (.frz o (.lst xs)) ∨ H a = none
  tab : ∀ p ∈ cs, H p.2 = some (.tbl #[])
  no : ∀ b, b ≠ a → b ∉ cs.map (·.2) → H b = none
section
variable {P : Program} {w : World} {K : PySem.W.Frag} {mg mb : Str → Option Value} {k : Nat} {fa a : Addr} {fd : FuncData} {x : Str} {sp : Sp} {s : Shared} {vs : List Value} {ns : List Int} {cs : List (Addr × Addr)}
theorem law_runT (KX : K.In s.heap) (hns : s.heap.Ns mainGlobals mg) (hb : s.heap.Ns builtinsNs mb) (hbb : ∀ x : Str, x ≠ "__name__" → mb x = bootBuiltins x) (hlim : s.heap.NoLimit) (hg : s.gens = #[])
    (hT : ∀ p ∈ cs, s.heap.get? p.2 = some { cls := .none, data := .fields #[] }) (nT : ∀ p ∈ cs, K.lookup p.2 = none) (Cd : ∀ p ∈ cs, PySem.W.CodeHd s.heap p.1 p.2)
    (hbm : ∃ (bm : Addr) (ob : Obj), mg "__builtins__" = some (.ref bm) ∧ bm ≠ builtinsNs ∧ s.heap.get? bm = some ob ∧ ob.cls = .type "module" ∧ ob.dict = some builtinsNs ∧ ob.data = .plain)
    (ha : s.heap.get? a = some { cls := .type "list", data := .seq vs.toArray }) (hl : ns.length ≤ sizeLine) (rv : Vals (ns.map V.int) vs) (hr : Room k PySem.callerA)
    (F : ∀ base : Heap, K.In base → base.Ns mainGlobals mg → (∀ p ∈ cs, LamX.TabB base mg p.1 p.2) → FnG P w K mg base k fa fd [x] sp) (hbind : ∀ (s : Shared) (u : Value), BindsTo s fd ⟨[u], []⟩ [(x, u)])
    (hsp : ∀ H : Hp, (∀ p ∈ cs, H p.2 = some (.tbl #[])) → (H a = none ∨ ∃ o, H a = some (.frz o (.lst (ns.map V.int)))) → SqL K H a (ns.map V.int) → SzOk H → sp [.ref a] H (fun v _ => v = .bl true) E0) {H : Hp} (lone : LoneT cs H a { cls := .type "list", data := .seq vs.toArray } (ns.map V.int)) (hS : SqL K H a (ns.map V.int)) (hK : H a ≠ none → K.lookup a = none) :
    codeAny (model P w) PySem.callerA (.call (.ref fa) ⟨[.ref a], []⟩) (fun r s' => r = .ok (.ret (.bool true)) ∧ OldK s.heap s'.heap ∧ s'.os = s.os ∧ AllBare s'.gens) s := by
  have isT : ∀ b : Addr, b ∈ cs.map (·.2) → H b = some (.tbl #[]) ∧ s.heap.get? b = some { cls := .none, data := .fields #[] } := fun b hb => by
    obtain ⟨p, hp, e⟩ := List.mem_map.mp hb
    rw [← e]; exact ⟨lone.tab p hp, hT p hp⟩
  have aT : a ∉ cs.map (·.2) := fun z => by
    have q := (isT a z).2
    rw [ha] at q
    cases (Option.some.inj q)
  have hok : HOk P w H s.heap := fun b u e => by
    by_cases hab : b = a
    · subst hab
      rcases lone.at_ with z | z
      · rw [z] at e; cases e
        exact ⟨ha, by rw [List.length_map]; exact hl, vs, 0, rv, ha⟩
      · rw [z] at e; cases e
    · by_cases hbt : b ∈ cs.map (·.2)
      · obtain ⟨h1, h2⟩ := isT b hbt
        rw [h1] at e; cases e
        exact h2
      · rw [lone.no b hab hbt] at e; cases e
  have free : ∀ {b : Addr} {o : Obj}, s.heap.get? b = some o → (∀ vs n, o.data ≠ .seq vs n) → o.data ≠ .fields #[] → (hidT s.heap H).get? b = some o := fun {b o} e h1 h2 => by
    refine hidT_get e ?_
    by_cases hab : b = a
    · subst hab
      rw [ha] at e; cases e
      exact absurd rfl (h1 _ _)
    · by_cases hbt : b ∈ cs.map (·.2)
      · rw [(isT b hbt).2] at e; cases e
        exact absurd rfl h2
      · exact lone.no b hab hbt
  have freeN : ∀ {b : Addr} {m : Str → Option Value}, s.heap.Ns b m → (hidT s.heap H).Ns b m := fun {b m} h => by
    obtain ⟨o, es, ep, e, d, r⟩ := h
    exact ⟨o, es, ep, free e (fun _ _ z => by rw [d] at z; cases z) (fun z => by rw [d] at z; cases z), d, r⟩
  have KB : K.In (hidT s.heap H) := fun b o e => by
    refine hidT_get (KX b o e) ?_
    by_cases hab : b = a
    · subst hab
      cases q : H b with
      | none => rfl
      | some u => rw [hK (by rw [q]; exact fun z => nomatch z)] at e; cases e
    · by_cases hbt : b ∈ cs.map (·.2)
      · obtain ⟨p, hp, ep⟩ := List.mem_map.mp hbt
        rw [← ep, nT p hp] at e; cases e
      · exact lone.no b hab hbt
  have TB : ∀ p ∈ cs, LamX.TabB (hidT s.heap H) mg p.1 p.2 := fun p hp => by
    have hTp := hT p hp
    have nG : mainGlobals ≠ p.2 := fun z => by
      obtain ⟨o, es, ep, e, hd, _⟩ := hns
      rw [z, hTp] at e; cases e; cases hd
    refine ⟨?_, ?_, nG⟩
    · obtain ⟨o, us, file, tf, flags, tg, inF, text, tt, e1, r1, r2, r3, r⟩ := Cd p hp
      refine ⟨o, us, file, tf, flags, tg, inF, text, tt, free e1 (fun _ _ z => by rw [r2] at z; cases z) (fun z => ?_), r1, r2, r3, r⟩
      rw [r2] at z; cases z
      simp at r3
    · obtain ⟨bm, ob, b1, b2, b3, b4, b5, b6⟩ := hbm
      refine ⟨bm, ob, b1, b2, fun q => ?_, fun q => ?_, free b3 (fun _ _ z => by rw [b6] at z; cases z) (fun z => by rw [b6] at z; cases z), b4, b5, b6⟩
      · obtain ⟨o, es, ep, e, hd, _⟩ := hns
        rw [q, e] at b3; cases b3
        rw [hd] at b6; cases b6
      · rw [q, hTp] at b3; cases b3; cases b6
  obtain ⟨mc, l1, l2⟩ := hlim
  have e0 : Env0 P w K mg (hidT s.heap H) PySem.callerA [] s H := ⟨rfl, ⟨KB, freeN hns, ⟨mb, freeN hb, hbb⟩, ⟨mc, freeN l1, l2⟩⟩, fun b o e => of_hidT e, Nat.le_of_eq (hidT_size _ _), trivial, (fun b z => nomatch z), hok, PyProof.Rows.AllBare.of_eq hg⟩
  have run := F _ KB (freeN hns) TB PySem.callerA [] s H ⟨[.ref a], []⟩ [.ref a] [.ref a] (fun v _ => v = .bl true) hr rfl e0 (hbind s (.ref a)) (.cons rfl .nil) rfl (hsp H lone.tab (lone.at_.elim (fun z => .inr ⟨_, z⟩) .inl) hS (szOk_of hok))
  refine codeAny_mono run fun r s' h => ?_
  match r, h with
  | .ok (.ret u), h =>
    obtain ⟨v, H', os, bare, un, hok', r', q⟩ := h
    subst q
    cases r'
    have key : ∀ b o, b ∉ cs.map (·.2) → s.heap.get? b = some o → s'.heap.get? b = some o := fun b o nb e => by
      by_cases hab : b = a
      · subst hab
        rcases lone.at_ with z | z
        · have y := (hok' b _ (un.frzs b _ _ z)).1
          rw [ha] at e; cases e; exact y
        · exact un.keep b o e z (fun q => nomatch q) (by simp)
      · exact un.keep b o e (lone.no b hab nb) (fun q => nomatch q) (by simp)
    have grown : ∀ p ∈ cs, ∃ more : Array Value, s'.heap.get? p.2 = some { cls := .none, data := .fields more } := fun p hp => by
      obtain ⟨more, z⟩ := un.tbls p.2 #[] (lone.tab p hp)
      exact ⟨_, hok' p.2 _ z⟩
    refine ⟨rfl, ⟨fun b o e => ?_, fun b o e => ?_⟩, os, bare⟩
    · by_cases hbt : b ∈ cs.map (·.2)
      · obtain ⟨p, hp, ep⟩ := List.mem_map.mp hbt
        obtain ⟨more, hm⟩ := grown p hp
        rw [← ep] at e ⊢
        rw [hT p hp] at e; cases e
        exact .inr (.inl ⟨((Cd p hp).tab (hT p hp)).isCodeTable, rfl, #[], more, rfl, by rw [Array.empty_append]; exact hm⟩)
      · exact .inl (key b o hbt e)
    · by_cases hbt : b ∈ cs.map (·.2)
      · obtain ⟨p, hp, ep⟩ := List.mem_map.mp hbt
        obtain ⟨more, hm⟩ := grown p hp
        rw [← ep]
        exact ⟨_, hm⟩
      · exact ⟨o, key b o hbt e⟩
end
/-- what the law's promise takes from the first heap -/
theorem okk_first {cs : List (Addr × Addr)} {T : List (Addr × Str)} {H : Hp} {K : PySem.W.Frag} {a : Addr} {xs : List V} (hT : ∀ p ∈ T, ∃ q ∈ cs, q.2 = p.1) (tab : ∀ p ∈ cs, H p.2 = some (.tbl #[])) (at_ : H a = none ∨ ∃ o, H a = some (.frz o (.lst xs))) (hS : SqL K H a xs) (sz : SzOk H) :
    Okk (MdT T Md0) (hide (fun b => b ∈ T.map (·.1)) H) H ∧ SqL K (hide (fun b => b ∈ T.map (·.1)) H) a xs := by
  have ht : ∀ b, b ∈ T.map (·.1) → H b = some (.tbl #[]) := fun b hb => by
    obtain ⟨p, hp, rfl⟩ := List.mem_map.mp hb
    obtain ⟨q, hq, e⟩ := hT p hp
    rw [← e]; exact tab q hq
  refine ⟨⟨fun b u e => (hide_some e).2, sz, ⟨trivial, fun p hp => ⟨#[], ht _ (List.mem_map.mpr ⟨p, hp, rfl⟩), trivial, fun pos cv hc => ?_⟩⟩, fun b hb => ?_⟩, ?_⟩
  · have z : codeAmong pos [] = some cv := hc
    simp [codeAmong] at z
  · rcases List.mem_append.mp hb with h | h
    · exact ⟨by rw [ht b h]; exact (fun z => nomatch z), hide_in h⟩
    · exact nomatch h
  · rcases hS with r | r
    · refine .inl ?_
      rcases r with r | ⟨o, r⟩
      · rcases at_ with z | ⟨o, z⟩ <;> rw [z] at r <;> cases r
      · refine .inr ⟨o, ?_⟩
        rw [hide_out fun hb => by rw [ht a hb] at r; cases r]; exact r
    · exact .inr r
/-- the end of a law row whose defs make lambdas -/
theorem walk_GT {l : PySem.W.OpenLaw} {n k : Nat} {q : Program} {loose : List Str} {XP : (Str → Option Value) → Heap → Prop} {YP : World → Heap → Prop} {d : DefRec} {K : Params → PySem.W.Frag} {sp : PySem.W.Frag → Sp} {x : Str} (cs : List (Addr × Addr))
    (hn : l.most = some n) (hn2 : n ≤ sizeLine) (hdf : d.params.defaults = []) (hr : Room k PySem.callerA)
    (hY : ∀ (w : World) (h : Heap), YP w h → (K w.params).In h) (hT : ∀ (w : World) (h : Heap), YP w h → ∀ p ∈ cs, h.get? p.2 = some { cls := .none, data := .fields #[] }) (nT : ∀ (w : World), ∀ p ∈ cs, (K w.params).lookup p.2 = none) (Cd : ∀ (w : World) (h : Heap), (K w.params).In h → ∀ p ∈ cs, PySem.W.CodeHd h p.1 p.2)
    (F : ∀ (w : World) (mg : Str → Option Value) (fa : Addr) (h : Heap), (K w.params).In h → h.Ns mainGlobals mg → mg d.name = some (.ref fa) →
      ∃ fd : FuncData, (∀ (s : Shared) (u : Value), BindsTo s fd ⟨[u], []⟩ [(x, u)]) ∧
        ∀ base : Heap, (K w.params).In base → base.Ns mainGlobals mg → (∀ p ∈ cs, LamX.TabB base mg p.1 p.2) → FnG l.prog w (K w.params) mg base k fa fd [x] (sp (K w.params)))
    (hsp : ∀ (K : PySem.W.Frag) (H : Hp) (a : Addr) (ns : List Int), ns.length ≤ n → (∀ p ∈ cs, H p.2 = some (.tbl #[])) → (H a = none ∨ ∃ o, H a = some (.frz o (.lst (ns.map V.int)))) → SqL K H a (ns.map V.int) → SzOk H → sp K [.ref a] H (fun v _ => v = .bl true) E0) :
    PySem.W.WalkO q loose XP YP l.row.toRowW d [] (fun f vs => PySem.call f vs) := by
  refine Att.attach_call hn hdf fun w s₀ s₁ mg mb fa o pm cd doc a vs ns G Y ho hd hcd hmg hobj hints hlen hg => ?_
  have KX := hY w _ Y
  obtain ⟨fd, hb, hF⟩ := F w mg fa _ KX G.T.g hmg
  have rv := vals_ints hints
  have hl : ns.length ≤ sizeLine := Nat.le_trans hlen hn2
  have tb := hT w _ Y
  have aT : a ∉ cs.map (·.2) := fun z => by
    obtain ⟨p, hp, e⟩ := List.mem_map.mp z
    have q := tb p hp
    rw [e, hobj] at q
    cases (Option.some.inj q)
  have memT : ∀ p ∈ cs, p.2 ∈ cs.map (·.2) := fun p hp => List.mem_map.mpr ⟨p, hp, rfl⟩
  cases hk : (K w.params).lookup a with
  | some ob =>
    have e := KX a ob hk
    rw [hobj] at e; cases e
    exact law_runT KX G.T.g G.T.b G.T.builtins G.T.nolimit hg tb (nT w) (Cd w _ KX) G.T.bmain hobj hl rv hr hF hb (fun H h1 h2 hS hz => hsp _ H a ns hlen h1 h2 hS hz) (H := fun b => if b ∈ cs.map (·.2) then some (.tbl #[]) else none) ⟨.inr (if_neg aT), fun p hp => if_pos (memT p hp), fun b _ hb => if_neg hb⟩
      (.inr ⟨_, vs.toArray, _, hk, rfl, rfl, rfl, by have := rv.length; rw [List.length_map] at this; rw [List.size_toArray, ← this]; exact hl, rv⟩) fun z => absurd (if_neg aT) z
  | none =>
    have hx : (fun b => if b = a then some (.frz { cls := .type "list", data := .seq vs.toArray } (.lst (ns.map V.int))) else if b ∈ cs.map (·.2) then some (.tbl #[]) else none : Hp) a = some (.frz { cls := .type "list", data := .seq vs.toArray } (.lst (ns.map V.int))) := if_pos rfl
    exact law_runT KX G.T.g G.T.b G.T.builtins G.T.nolimit hg tb (nT w) (Cd w _ KX) G.T.bmain hobj hl rv hr hF hb (fun H h1 h2 hS hz => hsp _ H a ns hlen h1 h2 hS hz) (H := fun b => if b = a then some (.frz { cls := .type "list", data := .seq vs.toArray } (.lst (ns.map V.int))) else if b ∈ cs.map (·.2) then some (.tbl #[]) else none)
      ⟨.inl hx, fun p hp => (if_neg (show ¬ p.2 = a from fun z => aT (by rw [← z]; exact memT p hp))).trans (if_pos (memT p hp)), fun b hb hb2 => (if_neg hb).trans (if_neg hb2)⟩ (.inl (.inr ⟨_, hx⟩)) fun _ => hk
end RT

/-! RT39: <= of one's own class; values of which the type alone is told; calls that may raise where they do not. -/
namespace RT
open PySem L2 PyProof.Rows
section
variable {X : Cx} {k : Nat} {f : Addr} {fd : FuncData} {ps : List Str} {sp : Sp}
theorem op_leOwn {C : Addr} (m : Meth X.K C "__le__" f) (F : FnOk X.prog X.w X.K X.mg X.base CX0 k f fd ps sp) (hb : Binds X.K fd ps []) (hr : Room (k + 1) X.A) : OpR X (compareOp .LtE) (rOwn C sp id) := by
  intro pins s σ H x y v u Q I rx ry ⟨a, b, dx, dy, fs, gs, e1, e2, ha, hb', hsp⟩
  subst e1 e2
  cases rx
  cases ry
  show wpAny (model X.prog X.w) X.A (richCompare .LtE (.ref a) (.ref b)) (EP X pins σ Q) X.xe s
  obtain ⟨mA, J, _⟩ := ins_get I.hok ha
  obtain ⟨mB, J', _⟩ := ins_get I.hok hb'
  obtain ⟨od, J, _⟩ := J.look
  obtain ⟨od', J', _⟩ := J'.look
  obtain ⟨m0, hF⟩ := I.fr
  refine PySem.W.cmp_K (op := .LtE) (tb := .ref C) (hr.mono (by omega : 0 ≤ k + 1)).units0 hF I.ok.mod.kin J J'.type (by simp [PySem.W.notFirst]) m.at_ m.fn ?_
  refine wpAny_mono (run_at F (hr.mono (by omega)) rfl hb I (vs := [V.ref a, V.ref b]) (us := [Value.ref a, Value.ref b]) (.cons rfl (.cons rfl .nil)) hsp) (fun r s' q => ?_) fun _ _ x => x
  obtain ⟨z, H', I', rz, t, ez, q⟩ := q
  subst ez
  cases rz
  exact ⟨.bl t, H', I', rfl, q⟩
end
/-- a class's <= as its users know it -/
structure LeqC (P0 : Program) (w0 : World) (K0 : PySem.W.Frag) (mg0 : Str → Option Value) (base0 : Heap) (C : Addr) (k : Nat) (fd : FuncData) (ps : List Str) (Ct : Ctr) : Prop where
  ex : ∃ g, Meth K0 C "__le__" g ∧ FnOk P0 w0 K0 mg0 base0 CX0 k g fd ps (spC Ct)
  bd : Binds K0 fd ps []
abbrev Leq (X : Cx) (C : Addr) (k : Nat) (fd : FuncData) (ps : List Str) (Ct : Ctr) : Prop := LeqC X.prog X.w X.K X.mg X.base C k fd ps Ct
section
variable {X : Cx} {M N : Md} {Γ : List Ent} {a b e : Expr} {C : Addr} {α β γ : Type} {φ : α → List (Str × Fe)} {x y : α} {R : Rp β} {P : β → Prop} {k : Nat} {fd : FuncData} {ps : List Str} {Ct : Ctr} {t : Bool} {pos : Pos}
theorem ev_leOwn (ha : EV X M a Γ (rObj C φ) x) (hb : EV X M b Γ (rObj C φ) y) (D : Leq X C k fd ps Ct) (hr : Room (k + 1) X.A) (hc : Ct M [.val (rObj C φ) x, .val (rObj C φ) y] (fun q => q = .val rBool t)) (hm : behindInMarks .LtE b = false := by exact nomark _) : EV X M (.Compare a [.LtE] [b] pos) Γ rBool t := by
  obtain ⟨g, m, F⟩ := D.ex
  refine ev_op2 (pe_cmpR (op_leOwn m F D.bd hr) pe_of pe_of hm) ha hb (fun x' y' h1 h2 G H v w o r1 r2 Q q => ?_)
  subst h1 h2
  obtain ⟨p1, d1, f1, e1, g1, _⟩ := id r1
  obtain ⟨p2, d2, f2, e2, g2, _⟩ := id r2
  exact ⟨p1, p2, d1, d2, f1, f2, e1, e2, o.gh _ _ g1, o.gh _ _ g2, use2 (e1 := .val (rObj C φ) x') (e2 := .val (rObj C φ) y') o r1 r2 hc fun v' G' H' s' r' => ⟨t, r', q (.bl t) t G' H' rfl s' rfl⟩⟩
/-- what may not raise -/
theorem takesF : Takes X (fun _ _ _ _ => False) := fun _ _ ⟨_, _, _, _, _, _, _, _, _, _, _, _, _, _, _, _, w⟩ => w.elim
theorem evx_ev (h : EVx X M N e Γ R P (fun _ => False)) : EVt X M N e Γ R P := fun H0 G H σ t Q k => h _ takesF H0 G H σ t (fun _ _ _ _ _ _ z => z.elim) Q k
end
/-! ### values of which the type alone is told, or texts -/
inductive Od where
  | str (s : Str)
  | ty (t : Value)
def rOd (K : PySem.W.Frag) : Rp Od := ⟨fun G v x => match x with | .str s => v = .str s | .ty t => ∀ H, Same G H → TyX K H v t, fun {_ _ _ x} e h => match x, h with | .str _, h => h | .ty _, h => fun H e2 => h H (e.trans e2)⟩
def Od.tyOf : Od → Value
  | .str _ => .type "str"
  | .ty t => t
theorem ty_od {K : PySem.W.Frag} : ∀ x : Od, TyR K (rOd K) x x.tyOf
  | .str s => fun G H v _ r => by rw [show v = V.str s from r]; exact .base (.str s)
  | .ty t => fun G H v e r => r H e
theorem od_ty {K : PySem.W.Frag} {α : Type} {R : Rp α} {x : α} {t : Value} (h : TyR K R x t) : ∀ G v, R.rel G v x → (rOd K).rel G v (.ty t) := fun G v r H e => h G H v e r
section
variable {X : Cx} {M N : Md} {Γ : List Ent} {e : Expr} {α : Type} {R : Rp α} {x : α} {t : Value} {s : Str}
theorem ev_odT (h : EV X M e Γ R x) (ty : TyR X.K R x t) : EV X M e Γ (rOd X.K) (.ty t) := ev_conv h (od_ty ty)
theorem ev_odS (h : EV X M e Γ rStr s) : EV X M e Γ (rOd X.K) (.str s) := ev_conv h fun _ _ r => r
theorem ev_odG (h : EV X M e Γ (rOd X.K) (.str s)) : EV X M e Γ rStr s := ev_conv h fun _ _ r => r
end
end RT

/-! RT40: the first signs of a text; texts compared by !=. -/
namespace RT
open PySem L2
section
variable {X : Cx} {M : Md} {Γ : List Ent} {a b : Expr} {pos p q1 : Pos} {s u z : Str} {kc n : Nat}
def toS (n : Nat) (z : Str) : Str := ⟨(z.cps.toList.take n).toArray⟩
theorem signs_to (n : Nat) (z : Str) : signs (toS n z) = (signs z).take n := by
  unfold signs toS
  rw [List.map_take]
/-- z[:n] -/
theorem ev_toS (ha : EV X M a Γ rStr z) (hz : z.length ≤ sizeLine) : EV X M (.Subscript a (.Slice none (some (.Constant (.int n) kc q1)) none p) pos) Γ rStr (toS n z) := fun H0 G H σ t Q k =>
  of_pe (pe_slice sl_str pe_of po_none (po_some pe_int)) (ha H0 G H σ t _ fun v x G1 H1 e1 s1 r1 => by
    subst e1
    refine ⟨n, rfl, x, r1, hz, ?_⟩
    have e : cutS x none (some (n : Int)) = toS n x := by
      show (⟨((x.cps.toList.drop 0).take (HT.sIx x.length x.length (some (n : Int)) - 0)).toArray⟩ : Str) = ⟨(x.cps.toList.take n).toArray⟩
      have e2 : HT.sIx x.length x.length (some (n : Int)) = min n x.cps.toList.length := by
        show (if (n : Int) < 0 then ((n : Int) + (x.length : Int)).toNat else min (n : Int).toNat x.length) = _
        rw [if_neg (by omega), show x.length = x.cps.toList.length by show x.cps.size = _; simp]
        omega
      rw [e2, List.drop_zero, Nat.sub_zero, ← List.take_eq_take_min]
    rw [e]
    exact k _ _ G1 H1 rfl s1 rfl)
theorem ev_neS (ha : EV X M a Γ rStr s) (hb : EV X M b Γ rStr u) (hm : behindInMarks .NotEq b = false := by exact nomark _) : EV X M (.Compare a [.NotEq] [b] pos) Γ rBool (!(s == u)) := ev_op2 (pe_cmpR op_ne pe_of pe_of hm) ha hb fun _ _ h1 h2 => by
  subst h1; subst h2
  rintro G H v w o rfl rfl Q k
  refine ⟨rfl, k _ _ G H rfl (Step.refl o) ?_⟩
  show V.bl _ = V.bl _
  rw [dec_str]
end
end RT

/-! RT41: a def that may raise, where it does not. -/
namespace RT
open PySem L2
theorem fn_good {P : Program} {w : World} {K : PySem.W.Frag} {mg : Str → Option Value} {base : Heap} {k : Nat} {f : Addr} {fd : FuncData} {ps : List Str} {C : CtrX} {Ct : Ctr} (F : FnOk P w K mg base (L2.CX P w) k f fd ps (spX C)) (h : ∀ M as res, Ct M as res → ∃ res' Z, C M M as res' Z ∧ (∀ z, ¬ Z z) ∧ ∀ u, res' u → res u) : FnOk P w K mg base CX0 k f fd ps (spC Ct) := by
  have key : ∀ {vs : List V} {H : Hp} {Q : VK} {E : XK}, spC Ct vs H Q E → spX C vs H Q E0 := fun {vs H Q E} ⟨M, G, as, res, hc, o, ar, hq⟩ => by
    obtain ⟨res', Z, h1, h2, h3⟩ := h M as res hc
    exact ⟨M, M, G, as, res', Z, rfl, h1, o, ar, fun R x v G' H' hr => hq R x v G' H' (h3 _ hr), fun er _ _ _ _ z => (h2 er z).elim⟩
  refine ⟨fun vs H Q E q => F.len _ _ _ _ (key q), fun A outer s H args us vs Q E hr e0 hb rv hsp => codeAny_mono (F.run A outer s H args us vs Q E0 hr e0 hb rv (key hsp)) fun r s' hq => ?_⟩
  match r, hq with
  | .ok (.ret u), hq => exact hq
  | .error e, ⟨_, _, _, _, _, _, _, _, _, _, _, _, z⟩ => exact z.elim
section
variable {X : Cx} {M M1 T : Md} {Γ : List Ent} {e : Expr} {rest : List Stmt} {α : Type} {R : Rp α} {P : α → Prop} {Z : Er → Prop} {Po : Post} {pos : Pos}
/-- an expression that may raise; what it is worth tells more -/
theorem sx_exprP (he : EVx X M M1 e Γ R P Z) (hr : ∀ x, P x → SSx X M1 T rest Γ Po Z) (hle : Le M1 T := by first | exact Le.refl _ | assumption | exact Le.up (by omega)) (hs : swapsWith e none pos.line X.env = pure false := by rfl) (hF : M.F = M1.F := by first | rfl | assumption) : SSx X M T (.Expr e pos :: rest) Γ Po Z := fun W tk G0 H0 G H σ D t s m w =>
  of_pss (pss_cons ps_of pss_of) (of_ps (ps_expr pe_of hs) (he W tk H0 G H σ t (fun er cls d σ' G' H' z o s' => w er cls d σ' G' H' z o ((s.trans2 hF s').le hle)) _ fun v x G' H' px s' r => hr x px W tk G0 H0 G' H' σ D (t.step2 hF s') (s.trans2 hF s') m w))
end
/-- the first of a list that .. -/
theorem find_first {α : Type} {p : α → Bool} : ∀ {l : List α} {i : Nat} {y : α}, l[i]? = some y → (l.take i).find? p = none → (p y = true → l.find? p = some y) ∧ (p y = false → (l.take (i + 1)).find? p = none)
  | [], _, _, h, _ => by simp at h
  | x :: l, 0, y, h, _ => by
    simp at h
    subst h
    exact ⟨fun z => by rw [List.find?_cons_of_pos z], fun z => by simp [z]⟩
  | x :: l, i + 1, y, h, hn => by
    have hx : p x = false := by
      rw [List.take_succ_cons, List.find?_cons] at hn
      split at hn
      · cases hn
      · assumption
    have hn' : (l.take i).find? p = none := by
      rw [List.take_succ_cons, List.find?_cons, hx] at hn
      exact hn
    have h' : l[i]? = some y := by simpa using h
    obtain ⟨a, b⟩ := find_first h' hn'
    exact ⟨fun z => by rw [List.find?_cons, hx]; exact a z, fun z => by rw [List.take_succ_cons, List.find?_cons, hx]; exact b z⟩
end RT

/-! RT42: a text told over and over; the keys of a dict of texts in their sequence. -/
namespace RT
open PySem L2
def rRepS : R2 := fun x y H Q => ∃ (s : Str) (n : Int), x = .str s ∧ y = .int n ∧ s.length ≤ 16 ∧ -(2 ^ 63 : Int) ≤ n ∧ n ≤ 1048576 ∧ Q (.str (Txt.mul s n)) H
theorem op_repS {X : Cx} : OpR X (binaryOp .Mult) rRepS := by
  intro pins s σ H x y v u Q I rx ry ⟨z, n, e1, e2, h1, h2, h3, q⟩
  subst e1 e2
  obtain ⟨t, rfl⟩ := (show ∃ t, v = Value.str z t from rx)
  obtain ⟨t2, rfl⟩ := (show ∃ t, u = Value.int n t from ry)
  exact PySem.W.KXi.mul rfl h1 h2 h3 fun t' k _ _ => ⟨.str _, H, I.tok k, ⟨t', rfl⟩, q⟩
section
variable {X : Cx} {M : Md} {Γ : List Ent} {a b e : Expr} {pos p : Pos} {s z : Str} {n : Int} {α : Type} {R : Rp α} {kvs : List (Str × α)}
theorem ev_repS (ha : EV X M a Γ rStr s) (hb : EV X M b Γ rInt n) (hz : s.length ≤ 16) (h0 : 0 ≤ n) (h1 : n ≤ 100) : EV X M (.BinOp a .Mult b pos) Γ rStr (Txt.mul s n) :=
  ev_op2 (pe_op op_repS pe_of pe_of) ha hb fun _ _ e1 e2 => by
    subst e1; subst e2
    intro G H v w o r1 r2 Q k
    exact ⟨_, _, r1, r2, hz, by omega, by omega, k _ _ G H rfl (Step.refl o) rfl⟩
theorem dic_E {G : Hp} {v : V} (h : (rDic R).rel G v kvs) : (rDicE knS R).rel G v kvs := by
  obtain ⟨a, o, l, h1, h2, h3⟩ := h
  exact ⟨a, o, l, h1, h2, paired_imp (fun _ _ q => ⟨q.1, q.2⟩) h3⟩
theorem ef_sortedDK (hm : X.mg "sorted" = none) (hcalm : X.calm = true) (hb : EV X M b Γ (rDic R) kvs) (hz : kvs.length < 16777216) (hg : Gl X "sorted" := by rfl) (hs : starEach [b] X.env = (false, eval b X.env) :: starEach [] X.env := by rfl) (hpl : (backTo pos (starEach [] X.env)).any (·.1) = false := by rfl) :
    EFp X M (.Call (.Name "sorted" p) [b] [] pos) Γ rStr (fun ys => ys.Perm (kvs.map (·.1)) ∧ PyProof.Rows.sortedS ys = true) := ef_sortedDS hm hcalm (ev_conv hb fun _ _ r => dic_E r) hz hg hs hpl
end
end RT

/-! RT43: a call with one lambda; dicts of one text key. -/
namespace RT
open PySem L2
section
variable {X : Cx} {M : Md} {Γ : List Ent} {x : Str} {k kl : Nat} {f : Addr} {fd : FuncData} {ps : List Str} {C : Ctr} {e : Expr} {p pos : Pos} {α : Type} {R : Rp α} {P : α → Prop} {ℓ : Lm} {oc : Oc} {kvs : List (Str × α)}
/-- f(e), e a lambda -/
theorem ev_callL1 (D : Def X x k f fd ps C) (hr : Room k X.A) (he : EV X M e Γ (rLam X.env.qual X.env.cells) ℓ) (L : LamOk X M Γ kl ℓ oc) (hc : ∃ res, C M [.val (rAct X.prog X.w X.K X.mg X.base M (kl + 1)) oc] res ∧ ∀ u, res u → ∃ y, P y ∧ u = .val R y) (hst : Stable R) (hfn : ∀ y, X.fn y = true := by intro _; rfl) (hg : Gl X x := by rfl)
    (hdb : (x == ("__debug__" : Str)) = false := by decide) (hs : starEach [e] X.env = (false, eval e X.env) :: starEach [] X.env := by rfl) (hpl : (backTo pos (starEach [] X.env)).any (·.1) = false := by rfl) :
    EVp X M (.Call (.Name x p) [e] [] pos) Γ R P :=
  ev_callLP (kl := kl) D hr hfn (ea_cons he ea_nil hs) (fun as ea G Kc vs h _ ar => by
    subst ea
    obtain ⟨v, rfl, r⟩ := args1 ar
    obtain ⟨res, h1, h2⟩ := hc
    exact ⟨[.val (rAct X.prog X.w X.K X.mg X.base M (kl + 1)) oc], res, argsOk_cons (h ℓ oc v L r) argsOk_nil, h1, h2⟩) hst hg hdb hs hpl
theorem E_dic {G : Hp} {v : V} (h : (rDicE knS R).rel G v kvs) : (rDic R).rel G v kvs := by
  obtain ⟨a, o, l, h1, h2, h3⟩ := h
  exact ⟨a, o, l, h1, h2, paired_imp (fun _ _ q => ⟨q.1, q.2⟩) h3⟩
/-! ### classes of errors, by what the written part says -/
theorem exm_of {K : PySem.W.Frag} {C O : Addr} (h1 : PySem.W.subIn K (.ref O) (.type "BaseException") = some true) (h2 : PySem.W.isClsIn K O = true) (h3 : PySem.W.typeIn K (.ref O) = some (.type "type")) (h4 : PySem.W.subIn K (.ref C) (.ref O) = some true) : PySem.W.exmOne K (.ref C) (.ref O) = some true := by
  have e2 : ((PySem.W.clsIn K O).isSome && PySem.W.typeIn K (.ref O) == some (.type "type")) = true := by
    rw [show (PySem.W.clsIn K O).isSome = true from h2, h3] <;> rfl
  unfold PySem.W.exmOne PySem.W.kitCls
  rw [h1]
  simp only [e2, if_true]
  rw [if_pos (by rfl)]
  exact h4
theorem kit_of {K : PySem.W.Frag} {t : Value} {O : Addr} {b : Bool} (hne : (t == .ref O) = false) (h2 : PySem.W.isClsIn K O = true) (h3 : PySem.W.typeIn K (.ref O) = some (.type "type")) (h4 : PySem.W.subIn K t (.ref O) = some b) : PySem.W.kitOne K t (.ref O) = some b := by
  have e2 : ((PySem.W.clsIn K O).isSome && PySem.W.typeIn K (.ref O) == some (.type "type")) = true := by
    rw [show (PySem.W.clsIn K O).isSome = true from h2, h3] <;> rfl
  unfold PySem.W.kitOne PySem.W.kitCls
  rw [if_neg (by rw [hne]; exact Bool.false_ne_true)]
  simp only [e2, if_true]
  exact h4
/-- {'a': x} -/
theorem ev_d1S {a b : Expr} {s : Str} {y : α} (ha : EV X M a Γ rStr s) (hb : EV X M b Γ R y) : EV X M (.Dict [some a] [b] pos) Γ (rDic R) [(s, y)] := ev_conv (ev_d1 (K := knS) ha hb) fun _ _ r => E_dic r
end
end RT

namespace My
open PySem L2 RT
def top (i : Nat) : Stmt := PySem.Challenge.pw_roundrates_k84_whole_ages_between.main.body.getD i (.Pass ⟨0, 0, 0, 0⟩)
/-! ### what the package computes -/
def ledOn (l : List Int) (n : Int) : Int := l.getD (n % l.length).toNat 0 + l.length * (n / l.length)
def ledBack (l : List Int) (n : Int) : Int := maxL (((upto 0 l.length).zip l).map fun p => p.1 + l.length * ((n - p.2) / l.length))
def endAt (len : Int) (rides : List (Int × Int)) (n : Int) : Int := minL (rides.map fun r => r.2 - len * ((r.1 - n) / len))
def endsOf (len : Int) (rides : List (Int × Int)) : List Int := (upto 0 len.toNat).map (endAt len rides)
/-- the built-in names stand -/
structure Bn (mg : Str → Option Value) : Prop where
  len : mg "len" = none
  range : mg "range" = none
  min : mg "min" = none
  max : mg "max" = none
  sum : mg "sum" = none
  all : mg "all" = none
  any : mg "any" = none
  abs : mg "abs" = none
  int : mg "int" = none
  bool : mg "bool" = none
  str : mg "str" = none
  list : mg "list" = none
  tuple : mg "tuple" = none
  dict : mg "dict" = none
  sorted : mg "sorted" = none
  enumerate : mg "enumerate" = none
  zip : mg "zip" = none
  repr : mg "repr" = none
  isinstance : mg "isinstance" = none
theorem foldl_snoc {α β : Type} (g : α → β) : ∀ (xs : List α) (l : List β), xs.foldl (fun acc x => acc ++ [g x]) l = l ++ xs.map g
  | [], l => by simp
  | x :: xs, l => by rw [List.foldl_cons, foldl_snoc g xs]; simp
/-! ### contracts -/
def cIsNumber : Ctr := fun _ as res => ∃ n : Int, as = [.val rInt n] ∧ res = (fun u => u = .val rBool true)
def cIsRide : Ctr := fun _ as res => ∃ r : Int × Int, r.1 ≤ r.2 ∧ as = [.val (rPair rInt rInt) r] ∧ res = (fun u => u = .val rBool true)
def cIsLength : Ctr := fun _ as res => ∃ n : Int, (1 ≤ n ∧ n ≤ 60) ∧ as = [.val rInt n] ∧ res = (fun u => u = .val rBool true)
def cNeedLength : Ctr := fun _ as res => ∃ n : Int, (1 ≤ n ∧ n ≤ 60) ∧ as = [.val rInt n] ∧ res = (fun u => u = .val rNone ())
def cNeedNumbers : Ctr := fun _ as res => ∃ ns : List Int, ns.length ≤ 1000 ∧ as = ns.map (fun n => Ent.val rInt n) ∧ res = (fun u => u = .val rNone ())
def cLedOn : Ctr := fun _ as res => ∃ (l : List Int) (n : Int), as = [.val (rTup rInt) l, .val rInt n] ∧ 0 < l.length ∧ l.length ≤ 100 ∧ res = (fun u => u = .val rInt (ledOn l n))
def cLedBack : Ctr := fun _ as res => ∃ (l : List Int) (n : Int), as = [.val (rTup rInt) l, .val rInt n] ∧ 0 < l.length ∧ l.length ≤ 100 ∧ res = (fun u => u = .val rInt (ledBack l n))
def cEndsOf : Ctr := fun _ as res => ∃ (l : Int) (r : List (Int × Int)), as = [.val rInt l, .val (rLst (rPair rInt rInt)) r] ∧ (0 < l ∧ l ≤ 100) ∧ 0 < r.length ∧ res = (fun u => u = .val (rTup rInt) (endsOf l r))
section
variable {P : Program} {w : World} {K : PySem.W.Frag} {mg : Str → Option Value} {base : Heap} {f f1 f2 f3 : Addr} {fd fd1 fd2 fd3 : FuncData}
theorem sc_is_number : FnScope ["thing"] ["thing"] (defScope (top 13)) := ⟨rfl, rfl, rfl, by decide +kernel, rfl, by decide +kernel, by decide +kernel⟩
theorem ok_is_number (F : Fun K "is_number" "is_number" (top 13) f fd) (B : Bn mg) : FnOk P w K mg base CX0 1 f fd ["thing"] (spC cIsNumber) := by
  refine fn_mk F sc_is_number (fun _ _ _ ⟨n, h, _⟩ => by rw [h]; rfl) fun cdv A outer s H E hr M as res ⟨n, ha, hres⟩ => ?_
  subst ha hres
  exact ss_retV (ev_and (t1 := true) (ev_isi B.isinstance (ev_var 0) (pe_tyn B.int (by decide +kernel)) (.ty "int") (fun x px => ⟨_, ty_int, kit_ty (by decide +kernel)⟩)) fun _ =>
    ev_and1 (ev_not (t1 := false) (ev_isi B.isinstance (ev_var 0) (pe_tyn B.bool (by decide +kernel)) (.ty "bool") (fun x px => ⟨_, ty_int, kit_ty (by decide +kernel)⟩)))) rfl
theorem sc_is_ride : FnScope ["thing"] ["thing"] (defScope (top 14)) := ⟨rfl, rfl, rfl, by decide +kernel, rfl, by decide +kernel, by decide +kernel⟩
theorem ok_is_ride (F : Fun K "is_ride" "is_ride" (top 14) f fd) (B : Bn mg) (D1 : DefC P w K mg base "is_number" 1 f1 fd1 ["thing"] cIsNumber) : FnOk P w K mg base CX0 2 f fd ["thing"] (spC cIsRide) := by
  refine fn_mk F sc_is_ride (fun _ _ _ ⟨n, _, h, _⟩ => by rw [h]; rfl) fun cdv A outer s H E hr M as res ⟨r, hle, ha, hres⟩ => ?_
  subst ha hres
  refine ss_ifn (tw_val (tw_or (t1 := false) (tv_not (t1 := true) (tv_val (ev_isi B.isinstance (ev_var 0) (pe_tyn B.tuple (by decide +kernel)) (.ty "tuple") (fun x px => ⟨_, ty_pair, kit_ty (by decide +kernel)⟩)))) fun _ =>
    tw_or (t1 := false) (tv_is (tv_cmp1 (ev_neI (ev_lenP B.len (ev_var 0)) ev_int)) (by decide)) fun _ =>
    tw_or (t1 := false) (tv_not (t1 := true) (tv_val (ev_call D1 hr (ea_cons (ev_fst (ev_var 0) ev_int) ea_nil) ⟨_, rfl, rfl⟩))) fun _ =>
    tw_or1 (tv_not (t1 := true) (tv_val (ev_call D1 hr (ea_cons (ev_snd (ev_var 0) ev_int) ea_nil) ⟨_, rfl, rfl⟩))))) ?_
  exact ss_retV (ev_is (ev_le (ev_fst (ev_var 0) ev_int) (ev_snd (ev_var 0) ev_int)) (decide_eq_true hle)) rfl
theorem sc_is_length : FnScope ["thing"] ["thing"] (defScope (top 18)) := ⟨rfl, rfl, rfl, by decide +kernel, rfl, by decide +kernel, by decide +kernel⟩
theorem ok_is_length {tk : Tok} (F : Fun K "is_length" "is_length" (top 18) f fd) (g1 : mg "MOST_LENGTH" = some (.int 60 tk)) (D1 : DefC P w K mg base "is_number" 1 f1 fd1 ["thing"] cIsNumber) : FnOk P w K mg base CX0 2 f fd ["thing"] (spC cIsLength) := by
  refine fn_mk F sc_is_length (fun _ _ _ ⟨n, _, h, _⟩ => by rw [h]; rfl) fun cdv A outer s H E hr M as res ⟨n, hle, ha, hres⟩ => ?_
  subst ha hres
  exact ss_retV (ev_and (t1 := true) (ev_call D1 hr (ea_cons (ev_var 0) ea_nil) ⟨_, rfl, rfl⟩) fun _ => ev_and1 (ev_is (ev_chain (f := fun i j => decide (i ≤ j)) (f' := fun i j => decide (i ≤ j)) op_le op_le ev_int (ev_var 0) (fun _ => ev_gint g1)) (by simp [hle.1, hle.2]))) rfl
theorem sc_need_length : FnScope ["length"] ["length"] (defScope (top 19)) := ⟨rfl, rfl, rfl, by decide +kernel, rfl, by decide +kernel, by decide +kernel⟩
theorem ok_need_length (F : Fun K "need_length" "need_length" (top 19) f fd) (D1 : DefC P w K mg base "is_length" 2 f1 fd1 ["thing"] cIsLength) : FnOk P w K mg base CX0 3 f fd ["length"] (spC cNeedLength) := by
  refine fn_mk F sc_need_length (fun _ _ _ ⟨n, _, h, _⟩ => by rw [h]; rfl) fun cdv A outer s H E hr M as res ⟨n, hle, ha, hres⟩ => ?_
  subst ha hres
  exact ss_ifn (tv_not (t1 := true) (tv_val (ev_call D1 hr (ea_cons (ev_var 0) ea_nil) ⟨n, hle, rfl, rfl⟩))) (ss_nil rfl)
theorem sc_need_numbers : FnScope ["numbers", "number"] ["numbers"] (defScope (top 20)) := ⟨rfl, rfl, rfl, by decide +kernel, rfl, by decide +kernel, by decide +kernel⟩
theorem ok_need_numbers (F : Fun K "need_numbers" "need_numbers" (top 20) f fd) (B : Bn mg) (D1 : DefC P w K mg base "is_number" 1 f1 fd1 ["thing"] cIsNumber) : FnR P w K mg base CX0 2 f (spC cNeedNumbers) := by
  refine fnR_star (S := rInt) F sc_need_numbers (fun _ _ _ _ _ _ rest => by cases rest <;> rfl) fun M as res ⟨ns, hz, ha, hres⟩ => ⟨ns, ha, hz, fun cdv A outer s H E hr => ?_⟩
  subst hres
  refine ss_ifn (tv_not (t1 := true) (tv_is (tv_val (ev_all B.all rfl (EFt.ev (ef_lc0 (g := fun _ => true) (own := [("number", 1)]) rfl sc_need_numbers.nd (it_tup (ev_var 0)) (blkOk_by (by kernel_rfl)) (by decide) (fun _ _ _ _ _ _ => tg_name 1 sc_need_numbers.nd)
    (fun _ _ _ _ _ x _ => ev_call D1 hr (ea_cons (ev_var 1) ea_nil) ⟨_, rfl, rfl⟩))))) (by simp))) (ss_nil rfl)
theorem sc_led_on : FnScope ["ends", "number", "length"] ["ends", "number"] (defScope (top 21)) := ⟨rfl, rfl, rfl, by decide +kernel, rfl, by decide +kernel, by decide +kernel⟩
theorem ok_led_on (F : Fun K "led_on" "led_on" (top 21) f fd) (B : Bn mg) : FnOk P w K mg base CX0 1 f fd ["ends", "number"] (spC cLedOn) := by
  refine fn_mk F sc_led_on (fun _ _ _ ⟨l, n, h, _⟩ => by rw [h]; rfl) fun cdv A outer s H E hr M as res ⟨l, n, ha, h0, h1, hres⟩ => ?_
  subst ha hres
  have hm : 0 ≤ n % (l.length : Int) ∧ n % (l.length : Int) < l.length := ⟨Int.emod_nonneg _ (by omega), Int.emod_lt_of_pos _ (by omega)⟩
  exact ss_set 2 sc_led_on.nd (ev_lenT B.len (ev_var 0)) (
    ss_retV (ev_add (ev_ixT (ev_var 0) (ev_mod (ev_var 1) (ev_var 2) (by omega)) (atI_getD hm.1 hm.2 0)) (ev_mul (ev_var 2) (ev_div (ev_var 1) (ev_var 2) (by omega)) (.inl (by omega)))) rfl)
theorem sc_led_back : FnScope ["ends", "number", "length", "at", "end"] ["ends", "number"] (defScope (top 22)) := ⟨rfl, rfl, rfl, by decide +kernel, rfl, by decide +kernel, by decide +kernel⟩
theorem ok_led_back (F : Fun K "led_back" "led_back" (top 22) f fd) (B : Bn mg) : FnOk P w K mg base CX0 1 f fd ["ends", "number"] (spC cLedBack) := by
  refine fn_mk F sc_led_back (fun _ _ _ ⟨l, n, h, _⟩ => by rw [h]; rfl) fun cdv A outer s H E hr M as res ⟨l, n, ha, h0, h1, hres⟩ => ?_
  subst ha hres
  exact ss_set 2 sc_led_back.nd (ev_lenT B.len (ev_var 0)) (
    ss_retV (ev_maxL B.max rfl (EFt.ev (ef_lc0 (g := fun (p : Int × Int) => p.1 + l.length * ((n - p.2) / l.length)) (own := [("at", 3), ("end", 4)]) rfl sc_led_back.nd (it_enum B.enumerate (ev_var 0) sk_tup (by omega)) (blkOk_by (by kernel_rfl)) (by decide) (fun _ _ _ _ _ _ => tg_pair 3 4 rfl sc_led_back.nd)
      (fun _ _ _ _ _ x _ => ev_add (ev_var 3) (ev_mul (ev_var 2) (ev_div (ev_sub (ev_var 1) (ev_var 4)) (ev_var 2) (by omega)) (.inl (by omega)))))) (by simp [upto_len]; omega)) rfl)
theorem sc_ends_of : FnScope ["length", "rides", "found", "number", "begin", "end"] ["length", "rides"] (defScope (top 23)) := ⟨rfl, rfl, rfl, by decide +kernel, rfl, by decide +kernel, by decide +kernel⟩
theorem ok_ends_of (F : Fun K "ends_of" "ends_of" (top 23) f fd) (B : Bn mg) : FnOk P w K mg base CX0 1 f fd ["length", "rides"] (spC cEndsOf) := by
  refine fn_mk F sc_ends_of (fun _ _ _ ⟨l, n, h, _⟩ => by rw [h]; rfl) fun cdv A outer s H E hr M as res ⟨l, r, ha, h0, h1, hres⟩ => ?_
  subst ha hres
  exact ss_setF 2 sc_ends_of.nd (ef_lst ea_same) (
    ss_forF PassesOwn.never rfl (it_range1 B.range (ev_var 0) (by omega)) (fun _ => tg_name 3 sc_ends_of.nd) (fun acc n => acc ++ [endAt l r n]) [] (fun acc => [.val rInt l, .val (rLst (rPair rInt rInt)) r, .own rInt acc, .any, .any, .any]) ⟨.inr rfl, .inr rfl, .inr rfl, .inl rfl, .inl rfl, .inl rfl, trivial⟩
      (fun i x acc hz hx hs => ss_append 2 rfl (by
          have := (List.getElem?_eq_some_iff.mp hx).1
          rw [hs, foldl_snoc]; simp; omega)
        (ev_minL B.min rfl (EFt.ev (ef_lc0 (own := [("begin", 4), ("end", 5)]) rfl sc_ends_of.nd (it_list (ev_var 1)) (blkOk_by (by kernel_rfl)) (by decide) (fun _ _ _ _ _ _ => tg_pair 4 5 rfl sc_ends_of.nd)
          (fun _ _ _ _ _ x hx => ev_sub (ev_var 5) (ev_mul (ev_var 0) (ev_div (ev_sub (ev_var 4) (ev_var 3)) (ev_var 0) (by omega)) (.inl (by omega)))))) (by simpa using h1))
        (ss_nil ⟨.inr rfl, .inr rfl, .inr rfl, .inl rfl, .inl rfl, .inl rfl, trivial⟩))
      (ss_freeze 2 rfl (ss_retV (ev_tupleL B.tuple (ev_var 2)) (by rw [foldl_snoc, List.nil_append]; rfl))))
end
end My

namespace My
open PySem L2 RT
/-! ### texts of letters -/
def lows : List Str := ["a", "b", "c", "d"]
def ups : List Str := ["A", "B", "C", "D"]
theorem signs_abcd : signs "abcd" = lows := by decide +kernel
theorem up_facts : ∀ s ∈ ups, s.cps.size = 1 ∧ s.length = 1 ∧ Txt.lower s ∈ lows ∧ inS s "abcd" = false ∧ inS s "ABCD" = true ∧ inS s "ABCDabcd" = true := by decide +kernel
theorem low_facts : ∀ s ∈ lows, s.cps.size = 1 ∧ s.length = 1 ∧ inS s "abcd" = true ∧ Txt.upper s ∈ ups ∧ Txt.lower (Txt.upper s) = s := by decide +kernel
theorem upper_abcd : Txt.upper "abcd" = "ABCD" := by decide +kernel
/-! ### what the package's things are -/
abbrev Tb := List (Str × List Int)
def φD (l : List Int) : List (Str × Fe) := [("own_ends", .mk (rTup rInt) l)]
def φT (CD : Addr) (t : Tb) : List (Str × Fe) := [("own_links", .mk (rDic (rObj CD φD)) t)]
abbrev rDaily (CD : Addr) : Rp (List Int) := rObj CD φD
abbrev rTable (CD CT : Addr) : Rp Tb := rObj CT (φT CD)
structure Kls (K : PySem.W.Frag) (mg : Str → Option Value) (CD CT : Addr) : Prop where
  d : ClsI K CD
  t : ClsI K CT
  nE : NoAttr K CD "own_ends"
  nL : NoAttr K CT "own_links"
  mD : mg "Daily" = some (.ref CD)
  mT : mg "DailyTable" = some (.ref CT)
/-- ends of a daily link -/
structure Good (l : List Int) : Prop where
  pos : 0 < l.length
  len : l.length ≤ 60
  at_ : ∀ (i : Nat) (x : Int), l[i]? = some x → (i : Int) ≤ x ∧ x ≤ i + 1000
/-- what DailyTable makes of a dict of links -/
def tabOf (ds : Tb) : Tb := (lows.filter fun s => (ds.lookup s).isSome).map fun s => (s, (ds.lookup s).getD [])
structure GoodT (t : Tb) (len : Nat) : Prop where
  ne : t ≠ []
  nd : (t.map (·.1)).Nodup
  low : ∀ s ∈ t.map (·.1), s ∈ lows
  good : ∀ (s : Str) (l : List Int), t.lookup s = some l → Good l ∧ l.length = len
/-- a relay: its signs are big letters of links of the table -/
structure Rel (t : Tb) (z : Str) : Prop where
  up : ∀ s ∈ signs z, s ∈ ups ∧ (t.lookup (Txt.lower s)).isSome
  pos : 0 < z.length
  len : z.length ≤ 12
/-- as led goes over big letters -/
def led (t : Tb) (ss : List Str) (n : Int) : Int := ss.foldl (fun n s => ledBack ((t.lookup (Txt.lower s)).getD []) n) n
def agesBy (t : Tb) (len : Nat) (z : Str) : List Int := (upto 0 len).map fun n => n - led t (signs z) n
def leastAges (t : Tb) (len : Nat) (zs : List Str) : List Int := (upto 0 len).map fun n => minL ((zs.map (agesBy t len)).map fun row => row.getD n.toNat 0)
/-! ### contracts -/
def iDaily : Cti (List Int) := fun _ as Py => ∃ (n : Int) (r : List (Int × Int)), (1 ≤ n ∧ n ≤ 60) ∧ 0 < r.length ∧ r.length ≤ 60 ∧ (∀ x ∈ r, x.1 ≤ x.2) ∧ as = [.val rInt n, .val (rLst (rPair rInt rInt)) r] ∧ Py = (fun y => y = endsOf n r)
def cDLen (CD : Addr) : Ctr := fun _ as res => ∃ l : List Int, as = [.val (rDaily CD) l] ∧ res = (fun u => u = .val rInt (l.length : Int))
def iTable (CD : Addr) : Cti Tb := fun _ as Py => ∃ (ds : Tb) (len : Nat), GoodT ds len ∧ as = [.val (rDic (rDaily CD)) ds] ∧ Py = (fun y => y = tabOf ds)
def cLetters (CD CT : Addr) : Ctr := fun _ as res => ∃ (t : Tb) (len : Nat), GoodT t len ∧ as = [.val (rTable CD CT) t] ∧ res = (fun u => u = .val rStr (Txt.join "" (t.map (·.1))))
def cTLen (CD CT : Addr) : Ctr := fun _ as res => ∃ (t : Tb) (len : Nat), GoodT t len ∧ as = [.val (rTable CD CT) t] ∧ res = (fun u => u = .val rInt (len : Int))
def cNeedLinks (CD CT : Addr) : Ctr := fun _ as res => ∃ (t : Tb) (len : Nat) (z : Str), GoodT t len ∧ Rel t z ∧ as = [.val (rTable CD CT) t, .val rStr z] ∧ res = (fun u => u = .val rNone ())
def cLed (CD CT : Addr) : Ctr := fun _ as res => ∃ (t : Tb) (len : Nat) (z : Str) (n : Int), GoodT t len ∧ Rel t z ∧ as = [.val (rTable CD CT) t, .val rStr z, .val rInt n] ∧ res = (fun u => u = .val rInt (led t (signs z) n))
section
variable {P : Program} {w : World} {K : PySem.W.Frag} {mg : Str → Option Value} {base : Heap} {f f1 f2 f3 CD CT : Addr} {fd fd1 fd2 fd3 : FuncData} {tk tk2 : Tok}
theorem sc_daily_init : FnScope ["self", "length", "rides", "at", "ride"] ["self", "length", "rides"] (defScope (inClass (top 25) 0)) := ⟨rfl, rfl, rfl, by decide +kernel, rfl, by decide +kernel, by decide +kernel⟩
theorem ok_daily_init (F : Fun K "__init__" "Daily.__init__" (inClass (top 25) 0) f fd) (B : Bn mg) (Q : Kls K mg CD CT) (g1 : mg "MOST_RIDES" = some (.int 60 tk)) (D1 : DefC P w K mg base "need_length" 3 f1 fd1 ["length"] cNeedLength) (D2 : DefC P w K mg base "is_ride" 2 f2 fd2 ["thing"] cIsRide) (D3 : DefC P w K mg base "ends_of" 1 f3 fd3 ["length", "rides"] cEndsOf) :
    FnOk P w K mg base CX0 4 f fd ["self", "length", "rides"] (spI CD φD iDaily) := by
  refine fn_init (pr := ["length", "rides"]) F sc_daily_init (fun _ _ _ ⟨_, _, _, _, _, _, h, _⟩ => by rw [h]; rfl) fun cdv A outer s H E hr x M as Py ⟨n, r, hn, h0, h1, hle, ha, hPy⟩ => ?_
  subst ha hPy
  refine ss_expr (ev_call (R := rNone) (y := ()) D1 hr (ea_cons (ev_var 1) ea_nil) ⟨n, hn, rfl, rfl⟩) ?_
  refine ss_ifn (tw_val (tw_or (t1 := false) (tv_not (t1 := true) (tv_val (ev_isi2 B.isinstance (ev_var 2) (pe_tyn B.list (by decide +kernel)) (pe_tyn B.tuple (by decide +kernel)) (.ty "list") (.ty "tuple") (fun x px => ⟨_, ty_lst, kitAny_cons (b := true) (kit_ty (by decide +kernel)) (fun h => by cases h) (fun _ => rfl)⟩)))) fun _ =>
    tw_or1 (tv_is (tv_cmp1 (ev_eqI (ev_lenL B.len (ev_var 2)) ev_int)) (by simp; intro h; rw [h] at h0; simp at h0)))) ?_
  refine ss_for0 PassesOwn.never rfl (it_enum B.enumerate (ev_var 2) sk_lst (by omega)) (fun _ => tg_pair 3 4 rfl sc_daily_init.nd) [.obj x CD [], .val rInt n, .val (rLst (rPair rInt rInt)) r, .any, .any] ⟨.inr rfl, .inr rfl, .inr rfl, .inl rfl, .inl rfl, trivial⟩
    (fun xs i y exs hz hy => ?_) ?_
  · subst exs
    obtain ⟨y1, y2⟩ := y
    rw [List.getElem?_zip_eq_some] at hy
    obtain ⟨e1, e2⟩ := hy
    have hi : i < r.length := (List.getElem?_eq_some_iff.mp e2).1
    rw [upto_at hi] at e1
    have e1 : y1 = (i : Int) := by have := Option.some.inj e1; dsimp only at this; omega
    have e3 : y2.1 ≤ y2.2 := hle y2 (List.mem_of_getElem? e2)
    exact ss_ifn (tw_val (tw_or (t1 := false) (tv_is (tv_cmp1 (ev_eqI (ev_var 3) (ev_gint g1))) (by simp; omega)) fun _ => tw_or1 (tv_not (t1 := true) (tv_val (ev_call D2 (hr.mono (by decide)) (ea_cons (ev_var 4) ea_nil) ⟨y2, e3, rfl, rfl⟩)))))
      (ss_nil ⟨.inr rfl, .inr rfl, .inr rfl, .inl rfl, .inl rfl, trivial⟩)
  · exact ss_fldset 0 rfl Q.d.cl Q.nE rfl (by decide) (ev_call D3 (hr.mono (by decide)) (ea_cons (ev_var 1) (ea_cons (ev_var 2) ea_nil)) ⟨n, r, rfl, by omega, h0, rfl⟩) (ss_nil ⟨_, _, _, rfl, rfl, rfl⟩)
theorem sc_daily_len : FnScope ["self"] ["self"] (defScope (inClass (top 25) 1)) := ⟨rfl, rfl, rfl, by decide +kernel, rfl, by decide +kernel, by decide +kernel⟩
theorem ok_daily_len (F : Fun K "length" "Daily.length" (inClass (top 25) 1) f fd) (B : Bn mg) (Q : Kls K mg CD CT) : FnOk P w K mg base CX0 1 f fd ["self"] (spC (cDLen CD)) := by
  refine fn_mk F sc_daily_len (fun _ _ _ ⟨_, h, _⟩ => by rw [h]; rfl) fun cdv A outer s H E hr M as res ⟨l, ha, hres⟩ => ?_
  subst ha hres
  exact ss_retV (ev_lenT B.len (ev_fld (ev_var 0) Q.d.cl Q.nE rfl)) rfl
theorem atI_0 {α : Type} {y : α} {ys : List α} : atI (y :: ys) 0 = some y := by
  exact atI_nat (j := 0) rfl
theorem kit_self {C : Addr} : PySem.W.kitOne K (.ref C) (.ref C) = some true := by
  unfold PySem.W.kitOne
  rw [if_pos (beq_self_eq_true _)]
theorem lookup_mem {α : Type} : ∀ {l : List (Str × α)} {s : Str} {x : α}, l.lookup s = some x → (s, x) ∈ l
  | [], _, _, h => by simp at h
  | (k, y) :: l, s, x, h => by
    rw [List.lookup_cons] at h
    by_cases e : (s == k) = true
    · rw [e] at h; cases h
      rw [eq_of_beq e]; exact List.mem_cons_self
    · have e' : (s == k) = false := by simpa using e
      rw [e'] at h
      exact List.mem_cons_of_mem _ (lookup_mem h)
theorem lookup_some {α : Type} : ∀ {l : List (Str × α)} {s : Str}, s ∈ l.map (·.1) → (l.lookup s).isSome = true
  | [], _, h => by simp at h
  | (k, y) :: l, s, h => by
    rw [List.lookup_cons]
    by_cases e : (s == k) = true
    · rw [e]; rfl
    · have e' : (s == k) = false := by simpa using e
      rw [e']
      refine lookup_some (l := l) ?_
      rcases List.mem_cons.mp h with z | z
      · exact absurd (by rw [z]; exact beq_self_eq_true _) e
      · exact z
theorem mem_keys {α : Type} {l : List (Str × α)} {s : Str} {x : α} (h : l.lookup s = some x) : s ∈ l.map (·.1) := List.mem_map.mpr ⟨(s, x), lookup_mem h, rfl⟩
/-- the links that the table is made of, in the letters' order -/
def someOf (ds : Tb) : List (List Int) := (lows.filter fun s => (ds.lookup s).isSome).map fun s => (ds.lookup s).getD []
theorem someOf_good {ds : Tb} {n : Nat} (g : GoodT ds n) : ∀ l ∈ someOf ds, Good l ∧ l.length = n := fun l h => by
  obtain ⟨s, hs, rfl⟩ := List.mem_map.mp h
  have h2 := (List.mem_filter.mp hs).2
  cases e : ds.lookup s with
  | none => rw [e] at h2; cases h2
  | some x => exact g.good s x e
theorem someOf_ne {ds : Tb} {n : Nat} (g : GoodT ds n) : someOf ds ≠ [] := fun h => by
  cases e : ds with
  | nil => exact g.ne e
  | cons p q =>
    have hm : p.1 ∈ ds.map (·.1) := by rw [e]; simp
    have : p.1 ∈ lows.filter fun s => (ds.lookup s).isSome := List.mem_filter.mpr ⟨g.low _ hm, lookup_some hm⟩
    have := List.mem_map_of_mem (f := fun s => (ds.lookup s).getD []) this
    unfold someOf at h
    rw [h] at this
    cases this
theorem sc_table_init : FnScope ["self", "dailies", "some", "letter", "one"] ["self", "dailies"] (defScope (inClass (top 43) 0)) := ⟨rfl, rfl, rfl, by decide +kernel, rfl, by decide +kernel, by decide +kernel⟩
theorem ok_table_init (F : Fun K "__init__" "DailyTable.__init__" (inClass (top 43) 0) f fd) (B : Bn mg) (Q : Kls K mg CD CT) (g1 : mg "LINKS" = some (.str "abcd" tk)) (D1 : PrpC P w K mg base CD "length" 1 fd1 ["self"] (cDLen CD)) :
    FnOk P w K mg base CX0 3 f fd ["self", "dailies"] (spI CT (φT CD) (iTable CD)) := by
  refine fn_init (pr := ["dailies"]) F sc_table_init (fun _ _ _ ⟨_, _, _, h, _⟩ => by rw [h]; rfl) fun cdv A outer s H E hr x M as Py ⟨ds, n, g, ha, hPy⟩ => ?_
  subst ha hPy
  have hz : ds.length ≤ 16777216 := by
    have h4 : ds.length ≤ lows.length := by
      have := List.Nodup.length_le_of_subset g.nd (l₂ := lows) fun s hs => g.low s hs
      simpa using this
    have : lows.length = 4 := rfl
    omega
  refine ss_ifn (tw_val (tw_or (t1 := false) (tv_not (t1 := true) (tv_val (ev_isi B.isinstance (ev_var 1) (pe_tyn B.dict (by decide +kernel)) (.ty "dict") (fun x px => ⟨_, ty_dic, kit_ty (by decide +kernel)⟩)))) fun _ =>
    tw_or1 (tv_cmp1 (ev_eqE hr.lt0 (ev_var 1) g.ne)))) ?_
  refine ss_ifn (tv_not (t1 := true) (tv_is (tv_val (ev_all B.all rfl (EFt.ev (ef_lc0 (g := fun _ => true) (own := [("letter", 3)]) rfl sc_table_init.nd (it_dic hz (ev_var 1)) (blkOk_by (by kernel_rfl)) (by decide) (fun _ _ _ _ _ _ => tg_name 3 sc_table_init.nd)
    (fun _ _ _ _ _ y hy => by
      obtain ⟨f1, f2, f3, _⟩ := low_facts y (g.low y hy)
      exact ev_and (t1 := true) (ev_isi B.isinstance (ev_var 3) (pe_tyn B.str (by decide +kernel)) (.ty "str") (fun x px => ⟨_, ty_str, kit_ty (by decide +kernel)⟩)) fun _ =>
        ev_and (t1 := true) (ev_is (ev_eqI (ev_lenS B.len (ev_var 3) (by rw [f2]; decide)) ev_int) (by rw [f2]; rfl)) fun _ => ev_and1 (ev_is (ev_inS (ev_var 3) (ev_gstr g1) f1) f3)))))) (by simp))) ?_
  refine ss_set (x := someOf ds) 2 sc_table_init.nd (EFt.ev (ef_lc (pb := fun s => (ds.lookup s).isSome) (g := fun s => (ds.lookup s).getD []) (own := [("letter", 3)]) rfl sc_table_init.nd (it_strE (ev_gstr g1) (by decide) signs_abcd) (blkOk_by (by kernel_rfl)) (by decide) (fun _ _ _ _ _ _ => tg_name 3 sc_table_init.nd)
    (fun _ _ _ _ _ y hy => ts_one (tv_cmp1 (ev_din (hr.lt 1) (ev_var 3) (ev_var 1)))) (fun _ _ _ _ _ y hy hp => ev_dget (hr.lt 1) (ev_var 1) (ev_var 3) (by
      cases e : ds.lookup y with
      | none => rw [e] at hp; cases hp
      | some z => rfl)))) ?_
  have hg := someOf_good g
  refine ss_ifn (tw_val (tw_or (t1 := false) (tv_not (t1 := true) (tv_is (tv_val (ev_all B.all rfl (EFt.ev (ef_lc0 (g := fun _ => true) (own := [("one", 4)]) rfl sc_table_init.nd (it_list (ev_var 2)) (blkOk_by (by kernel_rfl)) (by decide) (fun _ _ _ _ _ _ => tg_name 4 sc_table_init.nd)
    (fun _ _ _ _ _ y hy => ev_isi B.isinstance (ev_var 4) (pe_own Q.mD) (.own CD) (fun x px => ⟨_, ty_obj Q.d, kit_self⟩)))))) (by simp))) fun _ =>
    tw_or1 (tv_is (tv_val (ev_any B.any rfl (EFt.ev (ef_lc0 (g := fun _ => false) (own := [("one", 4)]) rfl sc_table_init.nd (it_list (ev_var 2)) (blkOk_by (by kernel_rfl)) (by decide) (fun _ _ _ _ _ _ => tg_name 4 sc_table_init.nd)
    (fun _ _ _ _ _ y hy => by
      obtain ⟨y0, ys, e0⟩ : ∃ y0 ys, someOf ds = y0 :: ys := by
        cases e : someOf ds with
        | nil => exact absurd e (someOf_ne g)
        | cons a b => exact ⟨a, b, rfl⟩
      have h0 : y0 ∈ someOf ds := by rw [e0]; simp
      refine ev_is (ev_neI (ev_prop (ev_var 4) Q.d.cl D1 hr ⟨y, rfl, rfl⟩) (ev_prop (ev_ixL (ev_var 2) ev_int (i := 0) (x := y0) (by rw [e0]; exact atI_0)) Q.d.cl D1 hr ⟨y0, rfl, rfl⟩)) ?_
      rw [(hg y hy).2, (hg y0 h0).2]; simp))))) (by simp)))) ?_
  exact ss_fldset 0 rfl Q.t.cl Q.nL rfl (by decide) (ev_dc (pb := fun s => (ds.lookup s).isSome) (kf := fun s => s) (vf := fun s => (ds.lookup s).getD []) (own := [("letter", 3)]) rfl sc_table_init.nd (it_strE (ev_gstr g1) (by decide) signs_abcd) (blkOk_by (by kernel_rfl)) (by decide) (by
      rw [List.map_id' ]
      exact List.Nodup.sublist List.filter_sublist (by decide)) (fun _ _ _ _ _ _ => tg_name 3 sc_table_init.nd)
    (fun _ _ _ _ _ y hy => ts_one (tv_cmp1 (ev_din (hr.lt 1) (ev_var 3) (ev_var 1)))) (fun _ _ _ _ _ y hy hp => ev_var 3) (fun _ _ _ _ _ y hy hp => ev_dget (hr.lt 1) (ev_var 1) (ev_var 3) (by
      cases e : ds.lookup y with
      | none => rw [e] at hp; cases hp
      | some z => rfl))) (ss_nil ⟨_, _, _, rfl, rfl, rfl⟩)
end
end My

namespace My
open PySem L2 RT
theorem glue_cps : ∀ (ps : List Str) (a : Array Nat), (ps.foldl (fun acc p => acc ++ (("" : Str)).cps ++ p.cps) a).toList = a.toList ++ (ps.map (·.cps.toList)).flatten
  | [], a => by simp
  | p :: ps, a => by
    have e : (("" : Str)).cps = #[] := by decide +kernel
    rw [List.foldl_cons, glue_cps ps, e]; simp
theorem join_cps (ss : List Str) : (Txt.join "" ss).cps.toList = (ss.map (·.cps.toList)).flatten := by
  cases ss with
  | nil => rfl
  | cons x r => exact glue_cps r x.cps
theorem sign_list {s : Str} (h : s.cps.size = 1) : ∃ c, s = ⟨#[c]⟩ := ⟨_, sign_eq h⟩
theorem signs_join {ss : List Str} (h : ∀ s ∈ ss, s.cps.size = 1) : signs (Txt.join "" ss) = ss := by
  unfold signs
  rw [join_cps]
  induction ss with
  | nil => rfl
  | cons x r ih =>
    obtain ⟨c, rfl⟩ := sign_list (h x List.mem_cons_self)
    have := ih fun s hs => h s (List.mem_cons_of_mem _ hs)
    simp at this ⊢
    exact this
theorem len_signs {z : Str} : (signs z).length = z.length := by simp [signs]; rfl
theorem GoodT.sum {t : Tb} {n : Nat} (g : GoodT t n) : t.length ≤ 4 := by
  have := List.Nodup.length_le_of_subset g.nd (l₂ := lows) fun s hs => g.low s hs
  rw [List.length_map] at this
  exact this
theorem GoodT.one {t : Tb} {n : Nat} (g : GoodT t n) {s : Str} (h : s ∈ t.map (·.1)) : s.cps.size = 1 ∧ s.length = 1 := let h := low_facts s (g.low s h); ⟨h.1, h.2.1⟩
theorem GoodT.lens {t : Tb} {n : Nat} (g : GoodT t n) : (t.map (·.1.length)).sum ≤ 4 := by
  have : ∀ {l : Tb}, (∀ p ∈ l, p.1.length = 1) → (l.map (·.1.length)).sum = l.length := fun {l} => by
    induction l with
    | nil => intro _; rfl
    | cons p l ih =>
      intro h
      rw [List.map_cons, List.sum_cons, ih fun q hq => h q (List.mem_cons_of_mem _ hq), h p List.mem_cons_self, List.length_cons]; omega
  rw [this fun p hp => (g.one (List.mem_map_of_mem hp)).2]
  exact g.sum
theorem Rel.sz {t : Tb} {z : Str} (r : Rel t z) : z.cps.size ≤ 16777216 := by
  have := r.len
  have e : z.length = z.cps.size := rfl
  omega
section
variable {P : Program} {w : World} {K : PySem.W.Frag} {mg : Str → Option Value} {base : Heap} {f f1 f2 f3 f4 CD CT : Addr} {fd fd1 fd2 fd3 fd4 : FuncData} {tk tk2 : Tok}
theorem sc_letters : FnScope ["self"] ["self"] (defScope (inClass (top 43) 1)) := ⟨rfl, rfl, rfl, by decide +kernel, rfl, by decide +kernel, by decide +kernel⟩
theorem ok_letters (F : Fun K "letters" "DailyTable.letters" (inClass (top 43) 1) f fd) (Q : Kls K mg CD CT) : FnOk P w K mg base CX0 1 f fd ["self"] (spC (cLetters CD CT)) := by
  refine fn_mk F sc_letters (fun _ _ _ ⟨_, _, _, h, _⟩ => by rw [h]; rfl) fun cdv A outer s H E hr M as res ⟨t, n, g, ha, hres⟩ => ?_
  subst ha hres
  exact ss_retV (ev_joinD rfl ev_str (ev_fld (ev_var 0) Q.t.cl Q.nL rfl) (by have := g.lens; have := g.sum; show _ + _ * 0 ≤ _; omega)) rfl
theorem sc_tlen : FnScope ["self"] ["self"] (defScope (inClass (top 43) 2)) := ⟨rfl, rfl, rfl, by decide +kernel, rfl, by decide +kernel, by decide +kernel⟩
theorem ok_tlen (F : Fun K "length" "DailyTable.length" (inClass (top 43) 2) f fd) (Q : Kls K mg CD CT) (D1 : PrpC P w K mg base CT "letters" 1 fd1 ["self"] (cLetters CD CT)) (D2 : PrpC P w K mg base CD "length" 1 fd2 ["self"] (cDLen CD)) : FnOk P w K mg base CX0 3 f fd ["self"] (spC (cTLen CD CT)) := by
  refine fn_mk F sc_tlen (fun _ _ _ ⟨_, _, _, h, _⟩ => by rw [h]; rfl) fun cdv A outer s H E hr M as res ⟨t, n, g, ha, hres⟩ => ?_
  subst ha hres
  obtain ⟨k0, l0, rest, e0⟩ : ∃ k0 l0 rest, t = (k0, l0) :: rest := by
    cases e : t with
    | nil => exact absurd e g.ne
    | cons a b => exact ⟨a.1, a.2, b, rfl⟩
  have hk : k0 ∈ t.map (·.1) := by rw [e0]; simp
  obtain ⟨c, ec⟩ := sign_list (g.one hk).1
  have hl : t.lookup k0 = some l0 := by rw [e0, List.lookup_cons_self]
  have hlen := (g.good k0 l0 hl).2
  refine ss_retV (ev_is (ev_prop (ev_dget (x := l0) (s := k0) (hr.lt 1) (ev_fld (ev_var 0) Q.t.cl Q.nL rfl) (ev_is (ev_ixS (ev_prop (ev_var 0) Q.t.cl D1 hr ⟨t, n, g, rfl, rfl⟩) ev_int ?_ (c := c) ?_) ec.symm) hl) Q.d.cl D2 hr ⟨l0, rfl, rfl⟩) (by rw [hlen])) rfl
  · have h1 : (Txt.join "" (t.map (·.1))).cps.toList.length ≤ 4 := by
      have h2 := signs_join (ss := t.map (·.1)) fun s hs => (g.one hs).1
      have h3 := congrArg List.length h2
      simp [signs] at h3
      have := g.sum
      simpa [h3] using this
    rw [sizeLine_eq]
    have : (Txt.join "" (t.map (·.1))).length = (Txt.join "" (t.map (·.1))).cps.toList.length := by simp; rfl
    omega
  · refine atI_nat (j := 0) ?_
    rw [join_cps, e0, List.map_cons, List.map_cons, ec]
    rfl
theorem sc_need_links : FnScope ["self", "steps", "step"] ["self", "steps"] (defScope (inClass (top 43) 6)) := ⟨rfl, rfl, rfl, by decide +kernel, rfl, by decide +kernel, by decide +kernel⟩
theorem ok_need_links (F : Fun K "need_links" "DailyTable.need_links" (inClass (top 43) 6) f fd) (Q : Kls K mg CD CT) : FnOk P w K mg base CX0 1 f fd ["self", "steps"] (spC (cNeedLinks CD CT)) := by
  refine fn_mk F sc_need_links (fun _ _ _ ⟨_, _, _, _, _, h, _⟩ => by rw [h]; rfl) fun cdv A outer s H E hr M as res ⟨t, n, z, g, r, ha, hres⟩ => ?_
  subst ha hres
  refine ss_for0 PassesOwn.never rfl (it_str (ev_var 1) r.sz) (fun _ => tg_name 2 sc_need_links.nd) [.val (rTable CD CT) t, .val rStr z, .any] ⟨.inr rfl, .inr rfl, .inl rfl, trivial⟩ (fun xs i y exs hz hy => ?_) (ss_nil rfl)
  subst exs
  obtain ⟨hu, hl⟩ := r.up y (List.mem_of_getElem? hy)
  obtain ⟨f1, f2, f3, f4, f5, f6⟩ := up_facts y hu
  exact ss_ifn (tv_is (tv_cmp1 (ev_dnotin (hr.lt 1) (ev_lower (ev_var 2) (by rw [f2]; decide)) (ev_fld (ev_var 0) Q.t.cl Q.nL rfl))) (by rw [hl]; rfl)) (ss_nil ⟨.inr rfl, .inr rfl, .inl rfl, trivial⟩)
theorem sc_led : FnScope ["self", "row", "number", "step", "ends"] ["self", "row", "number"] (defScope (inClass (top 43) 7)) := ⟨rfl, rfl, rfl, by decide +kernel, rfl, by decide +kernel, by decide +kernel⟩
theorem ok_led (F : Fun K "led" "DailyTable.led" (inClass (top 43) 7) f fd) (Q : Kls K mg CD CT) (g1 : mg "LINKS" = some (.str "abcd" tk)) (D2 : DefC P w K mg base "led_back" 1 f2 fd2 ["ends", "number"] cLedBack) : FnOk P w K mg base CX0 2 f fd ["self", "row", "number"] (spC (cLed CD CT)) := by
  refine fn_mk F sc_led (fun _ _ _ ⟨_, _, _, _, _, _, h, _⟩ => by rw [h]; rfl) fun cdv A outer s H E hr M as res ⟨t, n, z, k, g, r, ha, hres⟩ => ?_
  subst ha hres
  refine ss_forF PassesOwn.never rfl (it_str (ev_var 1) r.sz) (fun _ => tg_name 3 sc_led.nd) (fun n s => ledBack ((t.lookup (Txt.lower s)).getD []) n) k (fun n => [.val (rTable CD CT) t, .val rStr z, .val rInt n, .any, .any]) ⟨.inr rfl, .inr rfl, .inr rfl, .inl rfl, .inl rfl, trivial⟩ (fun i y k' hz hy _ => ?_) (ss_retV (ev_var 2) rfl)
  obtain ⟨hu, hl⟩ := r.up y (List.mem_of_getElem? hy)
  obtain ⟨f1, f2, f3, f4, f5, f6⟩ := up_facts y hu
  obtain ⟨l, el⟩ := Option.isSome_iff_exists.mp hl
  obtain ⟨gl, _⟩ := g.good _ l el
  refine ss_set (x := l) 4 sc_led.nd (ev_fld (x := l) (ev_dget (hr.lt 1) (ev_fld (ev_var 0) Q.t.cl Q.nL rfl) (ev_lower (ev_var 3) (by rw [f2]; decide)) el) Q.d.cl Q.nE rfl) ?_
  refine ss_set (x := ledBack l k') 2 sc_led.nd (ev_if (t1 := false) (tv_is (tv_cmp1 (ev_inS (ev_var 3) (ev_gstr g1) f1)) f4) (fun h => by cases h) (fun _ => ev_call D2 (hr.mono (by decide)) (ea_cons (ev_var 4) (ea_cons (ev_var 2) ea_nil)) ⟨l, k', rfl, gl.pos, by have := gl.len; omega, rfl⟩)) ?_
  exact ss_nil ⟨.inr rfl, .inr rfl, .inr (by rw [el]; rfl), .inl rfl, .inl rfl, trivial⟩
end
end My

namespace My
open PySem L2 RT
/-! ### a list or a tuple -/
def rSeq (b : Bool) {α : Type} (R : Rp α) : Rp (List α) := match b with
  | true => rTup R
  | false => rLst R
section
variable {X : Cx} {M : Md} {Γ : List Ent} {e tg : Expr} {α : Type} {R : Rp α} {xs : List α} {b : Bool} {pos p : Pos}
theorem it_seq (h : EV X M e Γ (rSeq b R) xs) : ITv X M tg e Γ R xs := by
  cases b
  · exact it_list h
  · exact it_tup h
theorem ev_lenSeq (hm : X.mg "len" = none) (ha : EV X M e Γ (rSeq b R) xs) (hg : Gl X "len" := by rfl) (hs : starEach [e] X.env = (false, eval e X.env) :: starEach [] X.env := by rfl) (hpl : (backTo pos (starEach [] X.env)).any (·.1) = false := by rfl) : EV X M (.Call (.Name "len" p) [e] [] pos) Γ rInt (xs.length : Int) := by
  cases b
  · exact ev_lenL hm ha hg hs hpl
  · exact ev_lenT hm ha hg hs hpl
theorem ty_seq {K : PySem.W.Frag} : ∃ t, TyR K (rSeq b R) xs t ∧ PySem.W.kitAny K t [.type "list", .type "tuple"] = some true := by
  cases b
  · exact ⟨_, ty_lst, kitAny_cons (b := true) (kit_ty (by decide +kernel)) (fun h => by cases h) (fun _ => rfl)⟩
  · exact ⟨_, ty_tup, kitAny_cons (b := false) (kit_ty (by decide +kernel)) (fun _ => kitAny_cons (b := true) (kit_ty (by decide +kernel)) (fun h => by cases h) (fun _ => rfl)) (fun h => by cases h)⟩
end
/-! ### contracts -/
def cIsRow : Ctr := fun _ as res => ∃ (t : Tb) (z : Str), Rel t z ∧ as = [.val rStr z] ∧ res = (fun u => u = .val rBool true)
def cNeedRow : Ctr := fun _ as res => ∃ (t : Tb) (z : Str), Rel t z ∧ as = [.val rStr z] ∧ res = (fun u => u = .val rNone ())
def cGo (CD CT : Addr) : Ctr := fun _ as res => ∃ (t : Tb) (len : Nat) (z : Str) (n : Int), GoodT t len ∧ Rel t z ∧ as = [.val (rTable CD CT) t, .val rStr z, .val rInt n] ∧ res = (fun u => u = .val rInt (led t (signs z) n))
def cNeedTable (CD CT : Addr) : Ctr := fun _ as res => ∃ t : Tb, as = [.val (rTable CD CT) t] ∧ res = (fun u => u = .val rNone ())
def cNeedRelay (CD CT : Addr) : Ctr := fun _ as res => ∃ (t : Tb) (len : Nat) (z : Str), GoodT t len ∧ Rel t z ∧ as = [.val (rTable CD CT) t, .val rStr z] ∧ res = (fun u => u = .val rNone ())
structure Rels (t : Tb) (zs : List Str) : Prop where
  rel : ∀ z ∈ zs, Rel t z
  pos : 0 < zs.length
  len : zs.length ≤ 6
def cNeedRelays (CD CT : Addr) : Ctr := fun _ as res => ∃ (t : Tb) (len : Nat) (b : Bool) (zs : List Str), GoodT t len ∧ Rels t zs ∧ as = [.val (rTable CD CT) t, .val (rSeq b rStr) zs] ∧ res = (fun u => u = .val rNone ())
def cAgesBy (CD CT : Addr) : Ctr := fun _ as res => ∃ (t : Tb) (len : Nat) (z : Str), GoodT t len ∧ Rel t z ∧ as = [.val (rTable CD CT) t, .val rStr z] ∧ res = (fun u => u = .val (rTup rInt) (agesBy t len z))
def cLeast (CD CT : Addr) : Ctr := fun _ as res => ∃ (t : Tb) (len : Nat) (b : Bool) (zs : List Str), GoodT t len ∧ Rels t zs ∧ as = [.val (rTable CD CT) t, .val (rSeq b rStr) zs] ∧ res = (fun u => u = .val (rTupN rInt) (leastAges t len zs))
def cOldest (CD CT : Addr) : Ctr := fun _ as res => ∃ (t : Tb) (len : Nat) (b : Bool) (zs : List Str), GoodT t len ∧ Rels t zs ∧ as = [.val (rTable CD CT) t, .val (rSeq b rStr) zs] ∧ res = (fun u => u = .val (rPair rInt rInt) (maxL (leastAges t len zs), ((leastAges t len zs).idxOf (maxL (leastAges t len zs)) : Int)))
def cYoungest (CD CT : Addr) : Ctr := fun _ as res => ∃ (t : Tb) (len : Nat) (b : Bool) (zs : List Str), GoodT t len ∧ Rels t zs ∧ as = [.val (rTable CD CT) t, .val (rSeq b rStr) zs] ∧ res = (fun u => u = .val (rPair rInt rInt) (minL (leastAges t len zs), ((leastAges t len zs).idxOf (minL (leastAges t len zs)) : Int)))
def partsOf (t : Tb) : List Str → Int → List Int
  | [], _ => []
  | s :: ss, n => (n - led t [s] n) :: partsOf t ss (led t [s] n)
def cParts (CD CT : Addr) : Ctr := fun _ as res => ∃ (t : Tb) (len : Nat) (z : Str) (n : Int), GoodT t len ∧ Rel t z ∧ as = [.val (rTable CD CT) t, .val rStr z, .val rInt n] ∧ res = (fun u => u = .val (rTup rInt) (partsOf t (signs z) n))
theorem signs_one {s : Str} (h : s.cps.size = 1) : signs s = [s] := by
  obtain ⟨c, rfl⟩ := sign_list h
  rfl
theorem Rel.one {t : Tb} {z s : Str} (r : Rel t z) (h : s ∈ signs z) : Rel t s := by
  obtain ⟨hu, hl⟩ := r.up s h
  obtain ⟨f1, f2, _⟩ := up_facts s hu
  refine ⟨fun q hq => ?_, by omega, by omega⟩
  rw [signs_one f1] at hq
  rw [List.mem_singleton.mp hq]
  exact ⟨hu, hl⟩
theorem len_agesBy {t : Tb} {n : Nat} {z : Str} : (agesBy t n z).length = n := by simp [agesBy, upto_len]
theorem len_least {t : Tb} {n : Nat} {z : List Str} : (leastAges t n z).length = n := by simp [leastAges, upto_len]
theorem GoodT.n {t : Tb} {n : Nat} (g : GoodT t n) : 0 < n ∧ n ≤ 60 := by
  obtain ⟨k0, l0, rest, e0⟩ : ∃ k0 l0 rest, t = (k0, l0) :: rest := by
    cases e : t with
    | nil => exact absurd e g.ne
    | cons a b => exact ⟨a.1, a.2, b, rfl⟩
  have hl : t.lookup k0 = some l0 := by rw [e0, List.lookup_cons_self]
  obtain ⟨a, b⟩ := g.good k0 l0 hl
  have := a.pos; have := a.len; omega
section
variable {P : Program} {w : World} {K : PySem.W.Frag} {mg : Str → Option Value} {base : Heap} {f f1 f2 f3 f4 CD CT : Addr} {fd fd1 fd2 fd3 fd4 : FuncData} {tk tk2 : Tok}
theorem sc_is_row : FnScope ["thing", "step"] ["thing"] (defScope (top 30)) := ⟨rfl, rfl, rfl, by decide +kernel, rfl, by decide +kernel, by decide +kernel⟩
theorem ok_is_row (F : Fun K "is_row" "is_row" (top 30) f fd) (B : Bn mg) (g1 : mg "MOST_STEPS_rows" = some (.int 60 tk)) (g2 : mg "STEPS" = some (.str "ABCDabcd" tk2)) : FnOk P w K mg base CX0 1 f fd ["thing"] (spC cIsRow) := by
  refine fn_mk F sc_is_row (fun _ _ _ ⟨_, _, _, h, _⟩ => by rw [h]; rfl) fun cdv A outer s H E hr M as res ⟨t, z, r, ha, hres⟩ => ?_
  subst ha hres
  have hl := r.len
  refine ss_retV (ev_and (t1 := true) (ev_isi B.isinstance (ev_var 0) (pe_tyn B.str (by decide +kernel)) (.ty "str") (fun x px => ⟨_, ty_str, kit_ty (by decide +kernel)⟩)) fun _ =>
    ev_and (t1 := true) (ev_is (ev_le (ev_lenS B.len (ev_var 0) (by omega)) (ev_gint g1)) (decide_eq_true (by omega))) fun _ => ev_and1 (ev_is (ev_all B.all rfl (EFt.ev (ef_lc0 (g := fun _ => true) (own := [("step", 1)]) rfl sc_is_row.nd (it_str (ev_var 0) r.sz) (blkOk_by (by kernel_rfl)) (by decide) (fun _ _ _ _ _ _ => tg_name 1 sc_is_row.nd)
    (fun _ _ _ _ _ y hy => by
      obtain ⟨f1, f2, f3, f4, f5, f6⟩ := up_facts y (r.up y hy).1
      exact ev_is (ev_inS (ev_var 1) (ev_gstr g2) f1) f6)))) (by simp))) rfl
theorem sc_need_table : FnScope ["table"] ["table"] (defScope (top 40)) := ⟨rfl, rfl, rfl, by decide +kernel, rfl, by decide +kernel, by decide +kernel⟩
theorem ok_need_table (F : Fun K "need_daily_table" "need_daily_table" (top 40) f fd) (B : Bn mg) (Q : Kls K mg CD CT) : FnOk P w K mg base CX0 1 f fd ["table"] (spC (cNeedTable CD CT)) := by
  refine fn_mk F sc_need_table (fun _ _ _ ⟨_, h, _⟩ => by rw [h]; rfl) fun cdv A outer s H E hr M as res ⟨t, ha, hres⟩ => ?_
  subst ha hres
  exact ss_ifn (tv_not (t1 := true) (tv_val (ev_isi B.isinstance (ev_var 0) (pe_own Q.mT) (.own CT) (fun x px => ⟨_, ty_obj Q.t, kit_self⟩)))) (ss_nil rfl)
theorem sc_is_relay : FnScope ["thing", "step"] ["thing"] (defScope (top 46)) := ⟨rfl, rfl, rfl, by decide +kernel, rfl, by decide +kernel, by decide +kernel⟩
theorem ok_is_relay (F : Fun K "is_relay" "is_relay" (top 46) f fd) (B : Bn mg) (g1 : mg "MOST_STEPS_ages22" = some (.int 12 tk)) (g2 : mg "LINKS" = some (.str "abcd" tk2)) : FnOk P w K mg base CX0 1 f fd ["thing"] (spC cIsRow) := by
  refine fn_mk F sc_is_relay (fun _ _ _ ⟨_, _, _, h, _⟩ => by rw [h]; rfl) fun cdv A outer s H E hr M as res ⟨t, z, r, ha, hres⟩ => ?_
  subst ha hres
  have hl := r.len
  have hp := r.pos
  refine ss_ifn (tw_val (tw_or (t1 := false) (tv_not (t1 := true) (tv_val (ev_isi B.isinstance (ev_var 0) (pe_tyn B.str (by decide +kernel)) (.ty "str") (fun x px => ⟨_, ty_str, kit_ty (by decide +kernel)⟩)))) fun _ =>
    tw_or1 (tv_not (t1 := true) (tv_is (tv_chain (f := fun i j => decide (i ≤ j)) (f' := fun i j => decide (i ≤ j)) op_le op_le ev_int (ev_lenS B.len (ev_var 0) (by omega)) (fun _ => ev_gint g1)) (by simp; omega))))) ?_
  refine ss_retV (ev_is (ev_all B.all rfl (EFt.ev (ef_lc0 (g := fun _ => true) (own := [("step", 1)]) rfl sc_is_relay.nd (it_str (ev_var 0) r.sz) (blkOk_by (by kernel_rfl)) (by decide) (fun _ _ _ _ _ _ => tg_name 1 sc_is_relay.nd)
    (fun _ _ _ _ _ y hy => by
      obtain ⟨f1, f2, f3, f4, f5, f6⟩ := up_facts y (r.up y hy).1
      exact ev_is (ev_inS (ev_var 1) (ev_upper (ev_gstr g2) (by decide +kernel)) f1) (by rw [upper_abcd]; exact f5))))) (by simp)) rfl
theorem sc_need_relay : FnScope ["table", "relay"] ["table", "relay"] (defScope (top 47)) := ⟨rfl, rfl, rfl, by decide +kernel, rfl, by decide +kernel, by decide +kernel⟩
theorem ok_need_relay (F : Fun K "need_relay" "need_relay" (top 47) f fd) (Q : Kls K mg CD CT) (D1 : DefC P w K mg base "is_relay" 1 f1 fd1 ["thing"] cIsRow) (D3 : MthC P w K mg base CT "need_links" 1 fd3 ["self", "steps"] (cNeedLinks CD CT)) : FnOk P w K mg base CX0 2 f fd ["table", "relay"] (spC (cNeedRelay CD CT)) := by
  refine fn_mk F sc_need_relay (fun _ _ _ ⟨_, _, _, _, _, h, _⟩ => by rw [h]; rfl) fun cdv A outer s H E hr M as res ⟨t, len, z, g, r, ha, hres⟩ => ?_
  subst ha hres
  refine ss_ifn (tv_not (t1 := true) (tv_val (ev_call D1 hr (ea_cons (ev_var 1) ea_nil) ⟨t, z, r, rfl, rfl⟩))) ?_
  exact ss_expr (ev_meth (S := rNone) (y := ()) (ev_var 0) Q.t.cl D3 hr rfl (ea_cons (ev_var 1) ea_nil) ⟨t, len, z, g, r, rfl, rfl⟩) (ss_nil rfl)
theorem sc_ages_by : FnScope ["table", "relay", "number"] ["table", "relay"] (defScope (top 48)) := ⟨rfl, rfl, rfl, by decide +kernel, rfl, by decide +kernel, by decide +kernel⟩
theorem ok_ages_by (F : Fun K "ages_by" "ages_by" (top 48) f fd) (B : Bn mg) (Q : Kls K mg CD CT) (D2 : PrpC P w K mg base CT "length" 3 fd2 ["self"] (cTLen CD CT)) (D4 : MthC P w K mg base CT "led" 2 fd4 ["self", "row", "number"] (cLed CD CT)) : FnOk P w K mg base CX0 5 f fd ["table", "relay"] (spC (cAgesBy CD CT)) := by
  refine fn_mk F sc_ages_by (fun _ _ _ ⟨_, _, _, _, _, h, _⟩ => by rw [h]; rfl) fun cdv A outer s H E hr M as res ⟨t, len, z, g, r, ha, hres⟩ => ?_
  subst ha hres
  have hn := g.n
  exact ss_retV (ev_tupleL B.tuple (EFt.ev (ef_lc0 (own := [("number", 2)]) rfl sc_ages_by.nd (it_range1 B.range (ev_prop (ev_var 0) Q.t.cl D2 hr ⟨t, len, g, rfl, rfl⟩) (by omega)) (blkOk_by (by kernel_rfl)) (by decide) (fun _ _ _ _ _ _ => tg_name 2 sc_ages_by.nd)
    (fun _ _ _ _ _ y hy => ev_sub (ev_var 2) (ev_meth (ev_var 0) Q.t.cl D4 (hr.mono (by decide)) rfl (ea_cons (ev_var 1) (ea_cons (ev_var 2) ea_nil)) ⟨t, len, z, y, g, r, rfl, rfl⟩))))) rfl
theorem sc_ages : FnScope ["table", "relay"] ["table", "relay"] (defScope (top 49)) := ⟨rfl, rfl, rfl, by decide +kernel, rfl, by decide +kernel, by decide +kernel⟩
theorem ok_ages (F : Fun K "ages" "ages" (top 49) f fd) (D1 : DefC P w K mg base "need_daily_table" 1 f1 fd1 ["table"] (cNeedTable CD CT)) (D2 : DefC P w K mg base "need_relay" 2 f2 fd2 ["table", "relay"] (cNeedRelay CD CT)) (D3 : DefC P w K mg base "ages_by" 5 f3 fd3 ["table", "relay"] (cAgesBy CD CT)) : FnOk P w K mg base CX0 6 f fd ["table", "relay"] (spC (cAgesBy CD CT)) := by
  refine fn_mk F sc_ages (fun _ _ _ ⟨_, _, _, _, _, h, _⟩ => by rw [h]; rfl) fun cdv A outer s H E hr M as res ⟨t, len, z, g, r, ha, hres⟩ => ?_
  subst ha hres
  refine ss_expr (ev_call (R := rNone) (y := ()) D1 (hr.mono (by decide)) (ea_cons (ev_var 0) ea_nil) ⟨t, rfl, rfl⟩) ?_
  refine ss_expr (ev_call (R := rNone) (y := ()) D2 (hr.mono (by decide)) (ea_cons (ev_var 0) (ea_cons (ev_var 1) ea_nil)) ⟨t, len, z, g, r, rfl, rfl⟩) ?_
  exact ss_retV (ev_call D3 hr (ea_cons (ev_var 0) (ea_cons (ev_var 1) ea_nil)) ⟨t, len, z, g, r, rfl, rfl⟩) rfl
end
end My

namespace My
open PySem L2 RT
section
variable {P : Program} {w : World} {K : PySem.W.Frag} {mg : Str → Option Value} {base : Heap} {f f1 f2 f3 f4 CD CT : Addr} {fd fd1 fd2 fd3 fd4 : FuncData} {tk tk2 : Tok}
theorem parts_fold (t : Tb) : ∀ (ss : List Str) (acc : List Int) (n : Int), (ss.foldl (fun (p : List Int × Int) s => (p.1 ++ [p.2 - led t [s] p.2], led t [s] p.2)) (acc, n)).1 = acc ++ partsOf t ss n
  | [], acc, n => by simp [partsOf]
  | s :: ss, acc, n => by rw [List.foldl_cons, parts_fold t ss]; simp [partsOf]
theorem parts_len (t : Tb) : ∀ (ss : List Str) (p : List Int × Int), (ss.foldl (fun (p : List Int × Int) s => (p.1 ++ [p.2 - led t [s] p.2], led t [s] p.2)) p).1.length = p.1.length + ss.length
  | [], p => by simp
  | s :: ss, p => by rw [List.foldl_cons, parts_len t ss]; simp; omega
end
end My

namespace My
open PySem L2 RT
/-! ### the law's state -/
def cMixed : CtrS := fun M N as res => ∃ (st g c : Addr) (n : Nat), n ≤ 10 ^ 13 ∧ M = MdS st g c n ∧ N = MdS st g c (n + 1) ∧ as = [.adr st] ∧ res = (fun u => ∃ x : Int, True ∧ u = .val rInt x)
def cDraw : CtrS := fun M N as res => ∃ (st g c : Addr) (n : Nat) (room : Int), n ≤ 10 ^ 13 ∧ M = MdS st g c n ∧ N = MdS st g c (n + 1) ∧ (0 < room ∧ room < 1073741824) ∧ as = [.adr st, .val rInt room] ∧ res = (fun u => ∃ x : Int, (0 ≤ x ∧ x < room) ∧ u = .val rInt x)
def cPick : CtrS := fun M N as res => ∃ (α : Type) (R : Rp α) (xs : List α) (st g c : Addr) (n : Nat), n ≤ 10 ^ 13 ∧ M = MdS st g c n ∧ N = MdS st g c (n + 1) ∧ (0 < xs.length ∧ xs.length ≤ 1000) ∧ as = [.adr st, .val (rLst R) xs] ∧ res = (fun u => ∃ x, x ∈ xs ∧ u = .val R x)
def cShuf : CtrS := fun M N as res => ∃ (xs : List Str) (st g c : Addr) (n : Nat), n + xs.length ≤ 10 ^ 13 ∧ M = MdS st g c n ∧ N = MdS st g c (n + xs.length) ∧ xs.length ≤ 1000 ∧ (∀ x ∈ xs, PyData.canLay0 (.str x) = true) ∧ as = [.adr st, .val (rLst rStr) xs] ∧ res = (fun u => ∃ ys, ys.Perm xs ∧ u = .val (rLst rStr) ys)
def cIs : Ctr := fun _ as res => ∃ (α β : Type) (R : Rp α) (S : Rp β) (x : α) (y : β) (d : PyData), HasD R x d ∧ HasD S y d ∧ Told d ∧ as = [.val R x, .val S y] ∧ res = (fun u => u = .val rBool true)
section
variable {P : Program} {w : World} {K : PySem.W.Frag} {mg : Str → Option Value} {base : Heap} {f f1 f2 f3 f4 CD CT : Addr} {fd fd1 fd2 fd3 fd4 : FuncData} {tk tk2 : Tok}
theorem sc_begun : FnScope ["script", "great", "cell"] ["script"] (defScope (top 52)) := ⟨rfl, rfl, rfl, by decide +kernel, rfl, by decide +kernel, by decide +kernel⟩
theorem ok_begun (F : Fun K "_law_begun" "_law_begun" (top 52) f fd) (B : Bn mg) : FnOk P w K mg base CX0 1 f fd ["script"] (spB K) := by
  refine fnB_mk F sc_begun fun cdv A outer s H E hr ns hz => ?_
  refine ssB_cons (N := fun Γ' => ∃ gs : List Int, Γ' = [.val (rScr K) ns, .own rInt gs, .any]) (s1_setLc 1 (lc_ (pb := fun n => decide ((10 : Int) ^ 18 ≤ (n.natAbs : Int))) (g := fun n => (n.natAbs : Int) - 10 ^ 18) (own := [("cell", 2)]) rfl sc_begun.nd (it_scr hz (ev_var 0)) (blkOk_by (by kernel_rfl)) (by decide) (fun _ _ _ _ _ _ => tg_name 2 sc_begun.nd)
    (fun _ _ _ _ _ y hy => ts_one (tv_cmp1 (ev_ge (ev_abs B.abs (ev_var 2)) (ev_pow ev_int ev_int ⟨by decide, by decide, by decide⟩)))) (fun _ _ _ _ _ y hy hp => ev_sub (ev_abs B.abs (ev_var 2)) (ev_pow ev_int ev_int ⟨by decide, by decide, by decide⟩))) (fun xs e => ⟨xs, rfl⟩)) fun Γ' ⟨gs, e⟩ => ?_
  subst e
  exact ssB_ret 1 rfl (ef_lc0 (g := fun n => (n.natAbs : Int)) (own := [("cell", 2)]) rfl sc_begun.nd (it_scr hz (ev_var 0)) (blkOk_by (by kernel_rfl)) (by decide) (fun _ _ _ _ _ _ => tg_name 2 sc_begun.nd) (fun _ _ _ _ _ y hy => ev_abs B.abs (ev_var 2)))
theorem sc_mixed : FnScope ["state", "turn", "found", "prime", "blend", "cell"] ["state"] (defScope (top 53)) := ⟨rfl, rfl, rfl, by decide +kernel, rfl, by decide +kernel, by decide +kernel⟩
theorem ok_mixed (F : Fun K "_law_mixed" "_law_mixed" (top 53) f fd) (B : Bn mg) : FnOk P w K mg base CX0 1 f fd ["state"] (spS cMixed) := by
  refine fnS_mk F sc_mixed (fun _ _ _ _ ⟨_, _, _, _, _, _, _, h, _⟩ => by rw [h]; rfl) fun cdv A outer s H E hr M N as res ⟨st, g, c, n, hn, hM, hN, ha, hres⟩ => ?_
  subst ha hres hM hN
  refine ss_parVV (P := fun t : Int => 1 ≤ t ∧ t ≤ n + 1) (P2 := fun y : Int => y = 0) (M1 := MdS st g c n) (M2 := MdS st g c n) 1 2 rfl sc_mixed.nd (by decide) (ev_addP (ev_turn (hr.lt 1) 0 rfl) (ev_int (i := 1)) (fun i j h1 h2 => by subst h2; omega)) ev_int (fun t y ht hy => ?_)
  subst hy
  refine ss_putTurn (m := n + 1) (P := fun x => x = t) (hr.lt 1) 0 rfl (ev_var 1) (fun x hx => by subst hx; omega) ?_
  refine ss_forT (R := rInt) (P := fun l => l = [2147483549, 2147483543, 2147483497, 2147483489]) (M0 := MdS st g c (n + 1)) (fun _ => MdS st g c (n + 1)) (MdS st g c (n + 1)) PassesOwn.never rfl (it_list (EFt.ev (ef_lst (ea_cons ev_int (ea_cons ev_int (ea_cons ev_int (ea_cons ev_int ea_same))))))) (fun _ => tg_name 3 sc_mixed.nd)
    (fun _ _ Γ' => ∃ fnd : Int, Γ' = [.adr st, .val rInt t, .val rInt fnd, .any, .any, .any]) (fun xs _ => ⟨[.adr st, .val rInt t, .val rInt 0, .any, .any, .any], ⟨.inr rfl, .inr rfl, .inr rfl, .inl rfl, .inl rfl, .inl rfl, trivial⟩, 0, rfl⟩) (fun xs i x Γi hxs hz hx ⟨fnd, e⟩ => ?_) rfl (fun _ => rfl) (fun _ _ _ _ => Le.refl _) (fun xs Γ' _ ⟨fnd, e⟩ => ?_)
  · subst e
    have hx' : 0 < x ∧ x < 2147483648 := by
      have hm : x ∈ xs := List.mem_of_getElem? hx
      rw [hxs] at hm
      simp at hm
      omega
    have ht63 : t ≤ 10 ^ 13 + 1 := by have : ((10 : Int) ^ 13) = ((10 ^ 13 : Nat) : Int) := by decide
                                      omega
    refine ss_set (x := 69621 * t + x / 41) 4 sc_mixed.nd (ev_add (ev_mul ev_int (ev_var 1) (.inl (by decide))) (ev_div (ev_var 3) ev_int (by decide))) ?_
    refine ss_forT (R := rInt) (P := fun _ => True) (M0 := MdS st g c (n + 1)) (fun _ => MdS st g c (n + 1)) (MdS st g c (n + 1)) PassesOwn.never rfl (it_list (ev_cells (hr.lt 1) 0 rfl)) (fun _ => tg_name 5 sc_mixed.nd)
      (fun _ _ Γ' => ∃ b : Int, b.natAbs < 2 ^ 64 ∧ Γ' = [.adr st, .val rInt t, .val rInt fnd, .val rInt x, .val rInt b, .any]) (fun xs _ => ⟨[.adr st, .val rInt t, .val rInt fnd, .val rInt x, .val rInt (69621 * t + x / 41), .any], ⟨.inr rfl, .inr rfl, .inr rfl, .inr rfl, .inr rfl, .inl rfl, trivial⟩, 69621 * t + x / 41, by omega, rfl⟩) (fun ys j y Γj _ _ hy ⟨b, hb, e⟩ => ?_) rfl (fun _ => rfl) (fun _ _ _ _ => Le.refl _) (fun ys Γ' _ ⟨b, hb, e⟩ => ?_)
    · subst e
      have hm := Int.emod_nonneg (b * 48271 + y + t) (show x ≠ 0 by omega)
      have hm2 := Int.emod_lt_of_pos (b * 48271 + y + t) hx'.1
      refine ss_set (x := (b * 48271 + y + t) % x) 4 sc_mixed.nd (ev_mod (ev_intI B.int (ev_add (ev_add (ev_mul (ev_var 4) ev_int (.inr (by decide))) (ev_var 5)) (ev_var 1))) (ev_var 3) hx'.1) ?_
      exact ss_nilW (Γ' := [.adr st, .val rInt t, .val rInt fnd, .val rInt x, .val rInt ((b * 48271 + y + t) % x), .any]) ⟨.inr rfl, .inr rfl, .inr rfl, .inr rfl, .inr rfl, .inl rfl, trivial⟩ ⟨_, by omega, rfl⟩
    · subst e
      refine ss_set (x := fnd * 2147483659 + b ^ (5 : Int).toNat % x) 2 sc_mixed.nd (ev_add (ev_mul (ev_var 2) ev_int (.inr (by decide))) (ev_mod (ev_intI B.int (ev_pow (ev_var 4) ev_int ⟨by decide, by decide, hb⟩)) (ev_var 3) hx'.1)) ?_
      exact ss_nilW (Γ' := [.adr st, .val rInt t, .val rInt (fnd * 2147483659 + b ^ (5 : Int).toNat % x), .any, .any, .any]) ⟨.inr rfl, .inr rfl, .inr rfl, .inl rfl, .inl rfl, .inl rfl, trivial⟩ ⟨_, rfl⟩
  · subst e
    exact ss_retV (ev_var 2) ⟨fnd, trivial, rfl⟩
end
end My

namespace My
open PySem L2 RT
section
variable {P : Program} {w : World} {K : PySem.W.Frag} {mg : Str → Option Value} {base : Heap} {f f1 f2 f3 f4 CD CT : Addr} {fd fd1 fd2 fd3 fd4 : FuncData} {tk tk2 : Tok}
theorem sc_draw : FnScope ["state", "room", "found"] ["state", "room"] (defScope (top 54)) := ⟨rfl, rfl, rfl, by decide +kernel, rfl, by decide +kernel, by decide +kernel⟩
theorem ok_draw (F : Fun K "_law_draw" "_law_draw" (top 54) f fd) (B : Bn mg) (D1 : DefSC P w K mg base "_law_mixed" 1 f1 fd1 ["state"] cMixed) : FnOk P w K mg base CX0 2 f fd ["state", "room"] (spS cDraw) := by
  refine fnS_mk F sc_draw (fun _ _ _ _ ⟨_, _, _, _, _, _, _, _, _, h, _⟩ => by rw [h]; rfl) fun cdv A outer s H E hr M N as res ⟨st, g, c, n, room, hn, hM, hN, hroom, ha, hres⟩ => ?_
  subst ha hres hM hN
  refine ss_ifcL (N := fun Γ' => Γ' = [.adr st, .val rInt room, .any]) (M1 := MdS st g c (n + 1)) (Le.refl _) (Pb := fun _ => True) (tv_cmp1 (ev_op2 (T := rBool) (P3 := fun _ => True) (pe_cmpR op_eq pe_of pe_of (nomark _)) (ev_rest (hr.lt 1) 0 rfl) (ev_int (i := 0)) (fun i j _ h => by
      subst h
      rintro G H v w o rfl rfl Q k
      exact ⟨rfl, k _ _ G H trivial (Step.refl o) rfl⟩))) (fun _ => ?_) (fun _ => ss_nil rfl (Le.up (by omega))) (fun Γ' e => ?_)
  · exact ss_putRest (hr.lt 1) 0 rfl (ev_great (hr.lt 70) 0 rfl (by omega) (ev_callS D1 hr (ea_adr 0 rfl ea_nil) (fun as ⟨r, e1, e2⟩ => ⟨_, ⟨st, g, c, n, hn, rfl, rfl, by rw [e2, e1], rfl⟩, fun u hu => hu⟩))) (ss_nil rfl)
  · subst e
    refine ss_setP (P := fun x => 0 ≤ x ∧ x < room) (M1 := MdS st g c (n + 1)) 2 sc_draw.nd (ev_modP (ev_intI B.int (ev_rest (hr.lt 1) 0 rfl)) (ev_var 1) (fun i j _ h => by subst h; exact hroom.1) (fun i j _ h => by subst h; exact ⟨Int.emod_nonneg _ (by omega), Int.emod_lt_of_pos _ hroom.1⟩)) (fun x hx => ?_)
    refine ss_putRest (P := fun _ => True) (m := n + 1) (hr.lt 1) 0 rfl (ev_divP (ev_rest (hr.lt 1) 0 rfl) (ev_var 1) (fun i j _ h => by subst h; exact hroom) (fun _ _ _ _ => trivial)) ?_
    exact ss_retV (ev_var 2) ⟨x, hx, rfl⟩
theorem sc_pick : FnScope ["state", "some"] ["state", "some"] (defScope (top 55)) := ⟨rfl, rfl, rfl, by decide +kernel, rfl, by decide +kernel, by decide +kernel⟩
theorem ok_pick (F : Fun K "_law_pick" "_law_pick" (top 55) f fd) (B : Bn mg) (D1 : DefSC P w K mg base "_law_draw" 2 f1 fd1 ["state", "room"] cDraw) : FnOk P w K mg base CX0 3 f fd ["state", "some"] (spS cPick) := by
  refine fnS_mk F sc_pick (fun _ _ _ _ ⟨_, _, _, _, _, _, _, _, _, _, _, h, _⟩ => by rw [h]; rfl) fun cdv A outer s H E hr M N as res ⟨α, R, xs, st, g, c, n, hn, hM, hN, hl, ha, hres⟩ => ?_
  subst ha hres hM hN
  exact ss_ret (P := fun x => x ∈ xs) (ev_ixLP (Pi := fun i => 0 ≤ i ∧ i < xs.length) (ev_var 1) (ev_callS D1 hr (ea_adr 0 rfl (ea_cons (ev_lenL (xs := xs) (R := R) B.len (ev_var 1)) ea_nil)) (fun as ⟨r, e1, e2⟩ => ⟨_, ⟨st, g, c, n, _, hn, rfl, rfl, by omega, by rw [e2, e1], rfl⟩, fun u hu => hu⟩)) (fun i hi => by
    obtain ⟨k, rfl⟩ := Int.eq_ofNat_of_zero_le hi.1
    have hk : k < xs.length := by omega
    exact ⟨xs[k], atI_nat (List.getElem?_eq_getElem hk), List.getElem_mem hk⟩)) (fun x hx => ⟨x, hx, rfl⟩)
theorem sc_is : FnScope ["found", "due"] ["found", "due"] (defScope (top 57)) := ⟨rfl, rfl, rfl, by decide +kernel, rfl, by decide +kernel, by decide +kernel⟩
theorem shaped_of {d : PyData} (t : Told d) : SeqAt.shaped d = true := by
  unfold SeqAt.shaped
  rw [t.lay, decide_eq_true (by have := t.dp; omega : d.depth ≤ 64)]; rfl
theorem ok_is (F : Fun K "_law_is" "_law_is" (top 57) f fd) (B : Bn mg) : FnG P w K mg base 1 f fd ["found", "due"] (spC cIs) := by
  refine fnG_mk F sc_is (fun _ _ _ ⟨_, _, _, _, _, _, _, _, _, _, h, _⟩ => by rw [h]; rfl) fun cdv A outer s H E hr hgd M as res ⟨α, β, R, S, x, y, d, h1, h2, t, ha, hres⟩ => ?_
  subst ha hres
  have hs := shaped_of t
  have er : PyData.eqv d d = true := PySem.SeqAt.eqv_refl d t.lay
  exact ss_retV (ev_and (t1 := true) (ev_is (ev_eqD (hr.lt 64) (ev_var 0) (ev_var 1) h1 h2 hs hs) er) fun _ => ev_and (t1 := true) (ev_is (ev_eqD (hr.lt 64) (ev_var 1) (ev_var 0) h2 h1 hs hs) er) fun _ =>
    ev_and1 (ev_is (ev_eqS (ev_repr B.repr (hr.lt 70) hgd (ev_var 0) h1 t) (ev_repr B.repr (hr.lt 70) hgd (ev_var 1) h2 t)) (beq_self_eq_true _))) rfl
end
end My

namespace My
open PySem L2 RT
/-! ### what the law computes -/
def lLead (l : List Int) (n : Int) : Int := l.getD (n % l.length).toNat 0 + n - n % l.length
def lSteps (l : List Int) : Int := maxL (((upto 0 l.length).zip l).map fun p => p.2 - p.1) + l.length + 1
def lBack (l : List Int) (n : Int) : Int := (upto 0 (lSteps l).toNat).foldl (fun h _ => if n < lLead l h then h - 1 else h) n
def lEndAt (len : Int) (rides : List (Int × Int)) (n : Int) : Int := minL (rides.map fun r => n + (r.1 - n) % len + r.2 - r.1)
def lEnds (len : Int) (rides : List (Int × Int)) : List Int := (upto 0 len.toNat).map (lEndAt len rides)
def heard (t : Tb) (ss : List Str) (n : Int) : Int := ss.foldl (fun n s => lBack ((t.lookup (Txt.lower s)).getD []) n) n
def lAges (t : Tb) (len : Nat) (z : Str) : List Int := (upto 0 len).map fun n => n - heard t (signs z) n
def lLeast (t : Tb) (len : Nat) (zs : List Str) : List Int := (upto 0 len).map fun n => minL ((zs.map (lAges t len)).map fun row => row.getD n.toNat 0)
def cLead : Ctr := fun _ as res => ∃ (l : List Int) (n : Int), Good l ∧ as = [.val (rLst rInt) l, .val rInt n] ∧ res = (fun u => u = .val rInt (lLead l n))
def cBack : Ctr := fun _ as res => ∃ (l : List Int) (n : Int), Good l ∧ as = [.val (rLst rInt) l, .val rInt n] ∧ res = (fun u => u = .val rInt (lBack l n))
def cLEnds : Ctr := fun _ as res => ∃ (l : Int) (r : List (Int × Int)), (0 < l ∧ l ≤ 60) ∧ 0 < r.length ∧ r.length ≤ 60 ∧ as = [.val rInt l, .val (rLst (rPair rInt rInt)) r] ∧ res = (fun u => u = .val (rLst rInt) (lEnds l r))
abbrev rLk : Rp Tb := rDic (rLst rInt)
def cHeard : Ctr := fun _ as res => ∃ (t : Tb) (len : Nat) (z : Str) (n : Int), GoodT t len ∧ Rel t z ∧ as = [.val rLk t, .val rStr z, .val rInt n] ∧ res = (fun u => u = .val rInt (heard t (signs z) n))
def cLAges : Ctr := fun _ as res => ∃ (t : Tb) (len : Nat) (z : Str), GoodT t len ∧ Rel t z ∧ as = [.val rLk t, .val rInt (len : Int), .val rStr z] ∧ res = (fun u => u = .val (rLst rInt) (lAges t len z))
def cLLeast : Ctr := fun _ as res => ∃ (t : Tb) (len : Nat) (zs : List Str), GoodT t len ∧ Rels t zs ∧ as = [.val rLk t, .val rInt (len : Int), .val (rLst rStr) zs] ∧ res = (fun u => u = .val (rLst rInt) (lLeast t len zs))
theorem Good.steps {l : List Int} (g : Good l) : 0 ≤ lSteps l ∧ lSteps l ≤ 2000 := by
  have hne : ((upto 0 l.length).zip l).map (fun p => p.2 - p.1) ≠ [] := fun h => by
    have h2 := congrArg List.length h
    have hp := g.pos
    rw [List.length_map, List.length_zip, upto_len, List.length_nil] at h2
    omega
  have hm := maxL_mem hne
  obtain ⟨q, hq, e⟩ := List.mem_map.mp hm
  obtain ⟨i, hi⟩ := List.getElem?_of_mem hq
  rw [List.getElem?_zip_eq_some] at hi
  have hlt : i < l.length := (List.getElem?_eq_some_iff.mp hi.2).1
  rw [upto_at hlt] at hi
  have h1 := Option.some.inj hi.1
  have h2 := g.at_ i q.2 hi.2
  have := g.len
  unfold lSteps
  rw [← e]
  omega
section
variable {P : Program} {w : World} {K : PySem.W.Frag} {mg : Str → Option Value} {base : Heap} {f f1 f2 f3 f4 CD CT : Addr} {fd fd1 fd2 fd3 fd4 : FuncData} {tk tk2 : Tok}
theorem sc_lead : FnScope ["ends", "number", "rest"] ["ends", "number"] (defScope (top 61)) := ⟨rfl, rfl, rfl, by decide +kernel, rfl, by decide +kernel, by decide +kernel⟩
theorem ok_lead (F : Fun K "_law_lead" "_law_lead" (top 61) f fd) (B : Bn mg) : FnOk P w K mg base CX0 1 f fd ["ends", "number"] (spC cLead) := by
  refine fn_mk F sc_lead (fun _ _ _ ⟨_, _, _, h, _⟩ => by rw [h]; rfl) fun cdv A outer s H E hr M as res ⟨l, n, g, ha, hres⟩ => ?_
  subst ha hres
  have hp := g.pos
  have hm : 0 ≤ n % (l.length : Int) ∧ n % (l.length : Int) < l.length := ⟨Int.emod_nonneg _ (by omega), Int.emod_lt_of_pos _ (by omega)⟩
  refine ss_set (x := n % (l.length : Int)) 2 sc_lead.nd (ev_mod (ev_intI B.int (ev_var 1)) (ev_lenL B.len (ev_var 0)) (by omega)) ?_
  exact ss_retV (ev_sub (ev_add (ev_ixL (ev_var 0) (ev_var 2) (atI_getD hm.1 hm.2 0)) (ev_var 1)) (ev_var 2)) rfl
theorem sc_back : FnScope ["ends", "number", "here", "lap", "at", "end"] ["ends", "number"] (defScope (top 62)) := ⟨rfl, rfl, rfl, by decide +kernel, rfl, by decide +kernel, by decide +kernel⟩
theorem ok_back (F : Fun K "_law_back" "_law_back" (top 62) f fd) (B : Bn mg) (D1 : DefC P w K mg base "_law_lead" 1 f1 fd1 ["ends", "number"] cLead) : FnOk P w K mg base CX0 2 f fd ["ends", "number"] (spC cBack) := by
  refine fn_mk F sc_back (fun _ _ _ ⟨_, _, _, h, _⟩ => by rw [h]; rfl) fun cdv A outer s H E hr M as res ⟨l, n, g, ha, hres⟩ => ?_
  subst ha hres
  have hp := g.pos
  have hl := g.len
  have hst := g.steps
  refine ss_set (x := n) 2 sc_back.nd (ev_var 1) ?_
  refine ss_forF PassesOwn.never rfl (it_range1 (i := lSteps l) B.range (ev_add (ev_add (ev_maxL B.max rfl (EFt.ev (ef_lc0 (g := fun (p : Int × Int) => p.2 - p.1) (own := [("at", 4), ("end", 5)]) rfl sc_back.nd (it_enum B.enumerate (ev_var 0) sk_lst (by omega)) (blkOk_by (by kernel_rfl)) (by decide) (fun _ _ _ _ _ _ => tg_pair 4 5 rfl sc_back.nd)
      (fun _ _ _ _ _ x _ => ev_sub (ev_var 5) (ev_var 4)))) (by simp [upto_len]; omega)) (ev_lenL B.len (ev_var 0))) ev_int) (by omega)) (fun _ => tg_name 3 sc_back.nd) (fun h _ => if n < lLead l h then h - 1 else h) n (fun h => [.val (rLst rInt) l, .val rInt n, .val rInt h, .any, .any, .any]) ⟨.inr rfl, .inr rfl, .inr rfl, .inl rfl, .inl rfl, .inl rfl, trivial⟩ (fun i y h hz hy _ => ?_) (ss_retV (ev_var 2) rfl)
  refine ss_one (s1_if (tv_cmp1 (ev_gt (ev_call D1 hr (ea_cons (ev_var 0) (ea_cons (ev_var 2) ea_nil)) ⟨l, h, g, rfl, rfl⟩) (ev_var 1))) (fun hb => ?_) (fun hb => ?_))
  · have hb' : n < lLead l h := of_decide_eq_true hb.symm
    exact ss_set (x := h - 1) 2 sc_back.nd (ev_sub (ev_var 2) ev_int) (ss_nil ⟨.inr rfl, .inr rfl, .inr (by rw [if_pos hb']), .inl rfl, .inl rfl, .inl rfl, trivial⟩)
  · have hb' : ¬ n < lLead l h := of_decide_eq_false hb.symm
    exact ss_nil ⟨.inr rfl, .inr rfl, .inr (by rw [if_neg hb']), .inl rfl, .inl rfl, .inl rfl, trivial⟩
theorem sc_lends : FnScope ["length", "rides", "found", "number", "some", "begin", "end", "later"] ["length", "rides"] (defScope (top 60)) := ⟨rfl, rfl, rfl, by decide +kernel, rfl, by decide +kernel, by decide +kernel⟩
theorem ok_lends (F : Fun K "_law_ends" "_law_ends" (top 60) f fd) (B : Bn mg) : FnOk P w K mg base CX0 1 f fd ["length", "rides"] (spC cLEnds) := by
  refine fn_mk F sc_lends (fun _ _ _ ⟨_, _, _, _, _, h, _⟩ => by rw [h]; rfl) fun cdv A outer s H E hr M as res ⟨l, r, h0, h1, h2, ha, hres⟩ => ?_
  subst ha hres
  refine ss_setF (xs := ([] : List Int)) (R := rInt) 2 sc_lends.nd (ef_lst ea_same) ?_
  refine ss_forF PassesOwn.never rfl (it_range1 B.range (ev_var 0) (by omega)) (fun _ => tg_name 3 sc_lends.nd) (fun acc n => acc ++ [lEndAt l r n]) [] (fun acc => [.val rInt l, .val (rLst (rPair rInt rInt)) r, .own rInt acc, .any, .any, .any, .any, .any]) ⟨.inr rfl, .inr rfl, .inr rfl, .inl rfl, .inl rfl, .inl rfl, .inl rfl, .inl rfl, trivial⟩ (fun i x acc hz hx hs => ?_)
    (ss_freeze 2 rfl (ss_retV (ev_var 2) (by rw [foldl_snoc, List.nil_append]; rfl)))
  refine ss_setF (xs := ([] : List Int)) (R := rInt) 4 sc_lends.nd (ef_lst ea_same) ?_
  refine ss_forF PassesOwn.never rfl (it_list (ev_var 1)) (fun _ => tg_pair 5 6 rfl sc_lends.nd) (fun acc (q : Int × Int) => acc ++ [x + (q.1 - x) % l + q.2 - q.1]) [] (fun a2 => [.val rInt l, .val (rLst (rPair rInt rInt)) r, .own rInt acc, .val rInt x, .own rInt a2, .any, .any, .any]) ⟨.inr rfl, .inr rfl, .inr rfl, .inr rfl, .inr rfl, .inl rfl, .inl rfl, .inl rfl, trivial⟩ (fun j y a2 hz2 hy hs2 => ?_) ?_
  · refine ss_set (x := (y.1 - x) % l) 7 sc_lends.nd (ev_mod (ev_intI B.int (ev_sub (ev_var 5) (ev_var 3))) (ev_var 0) h0.1) ?_
    refine ss_append 4 rfl (by rw [hs2, foldl_snoc]; simp; omega) (ev_sub (ev_add (ev_add (ev_var 3) (ev_var 7)) (ev_var 6)) (ev_var 5)) ?_
    exact ss_nil ⟨.inr rfl, .inr rfl, .inr rfl, .inr rfl, .inr rfl, .inl rfl, .inl rfl, .inl rfl, trivial⟩
  · refine ss_append 2 rfl (by rw [hs, foldl_snoc]; simp; have := (List.getElem?_eq_some_iff.mp hx).1; omega) (ev_viewI 4 rfl (ev_minL B.min rfl (ev_var 4) (by rw [foldl_snoc]; simpa using h1))) ?_
    exact ss_nil ⟨.inr rfl, .inr rfl, .inr (by rw [foldl_snoc, List.nil_append]; rfl), .inl rfl, .inl rfl, .inl rfl, .inl rfl, .inl rfl, trivial⟩
theorem sc_heard : FnScope ["links", "relay", "number", "step"] ["links", "relay", "number"] (defScope (top 66)) := ⟨rfl, rfl, rfl, by decide +kernel, rfl, by decide +kernel, by decide +kernel⟩
theorem ok_heard (F : Fun K "_law_heard" "_law_heard" (top 66) f fd) (D1 : DefC P w K mg base "_law_back" 2 f1 fd1 ["ends", "number"] cBack) : FnOk P w K mg base CX0 3 f fd ["links", "relay", "number"] (spC cHeard) := by
  refine fn_mk F sc_heard (fun _ _ _ ⟨_, _, _, _, _, _, h, _⟩ => by rw [h]; rfl) fun cdv A outer s H E hr M as res ⟨t, len, z, n, g, r, ha, hres⟩ => ?_
  subst ha hres
  refine ss_forF PassesOwn.never rfl (it_str (ev_var 1) r.sz) (fun _ => tg_name 3 sc_heard.nd) (fun n s => lBack ((t.lookup (Txt.lower s)).getD []) n) n (fun n => [.val rLk t, .val rStr z, .val rInt n, .any]) ⟨.inr rfl, .inr rfl, .inr rfl, .inl rfl, trivial⟩ (fun i y k' hz hy _ => ?_) (ss_retV (ev_var 2) rfl)
  obtain ⟨hu, hl⟩ := r.up y (List.mem_of_getElem? hy)
  obtain ⟨f1, f2, f3, f4, f5, f6⟩ := up_facts y hu
  obtain ⟨l, el⟩ := Option.isSome_iff_exists.mp hl
  obtain ⟨gl, _⟩ := g.good _ l el
  refine ss_set (x := lBack l k') 2 sc_heard.nd (ev_call D1 hr (ea_cons (ev_dget (x := l) (hr.lt 1) (ev_var 0) (ev_lower (ev_var 3) (by rw [f2]; decide)) el) (ea_cons (ev_var 2) ea_nil)) ⟨l, k', gl, rfl, rfl⟩) ?_
  exact ss_nil ⟨.inr rfl, .inr rfl, .inr (by rw [el]; rfl), .inl rfl, trivial⟩
theorem sc_lages : FnScope ["links", "length", "relay", "number"] ["links", "length", "relay"] (defScope (top 67)) := ⟨rfl, rfl, rfl, by decide +kernel, rfl, by decide +kernel, by decide +kernel⟩
theorem ok_lages (F : Fun K "_law_ages" "_law_ages" (top 67) f fd) (B : Bn mg) (D1 : DefC P w K mg base "_law_heard" 3 f1 fd1 ["links", "relay", "number"] cHeard) : FnOk P w K mg base CX0 4 f fd ["links", "length", "relay"] (spC cLAges) := by
  refine fn_mk F sc_lages (fun _ _ _ ⟨_, _, _, _, _, h, _⟩ => by rw [h]; rfl) fun cdv A outer s H E hr M as res ⟨t, len, z, g, r, ha, hres⟩ => ?_
  subst ha hres
  have hn := g.n
  exact ss_retV (EFt.ev (ef_lc0 (own := [("number", 3)]) rfl sc_lages.nd (it_range1 B.range (ev_var 1) (by omega)) (blkOk_by (by kernel_rfl)) (by decide) (fun _ _ _ _ _ _ => tg_name 3 sc_lages.nd)
    (fun _ _ _ _ _ y hy => ev_sub (ev_var 3) (ev_call D1 hr (ea_cons (ev_var 0) (ea_cons (ev_var 2) (ea_cons (ev_var 3) ea_nil))) ⟨t, len, z, y, g, r, rfl, rfl⟩)))) rfl
end
end My

namespace My
open PySem L2 RT
abbrev rRid : Rp (List (Int × Int)) := rLst (rPair rInt rInt)
/-- rides as the law draws them -/
structure GoodR (r : List (Int × Int)) : Prop where
  pos : 0 < r.length
  len : r.length ≤ 60
  le : ∀ x ∈ r, x.1 ≤ x.2 ∧ x.2 ≤ x.1 + 500
abbrev Rt := List (Str × List (Int × Int))
structure GoodRt (rs : Rt) : Prop where
  ne : rs ≠ []
  nd : (rs.map (·.1)).Nodup
  low : ∀ s ∈ rs.map (·.1), s ∈ lows
  good : ∀ p ∈ rs, GoodR p.2
def dsOf (len : Int) (rs : Rt) : Tb := rs.map fun p => (p.1, endsOf len p.2)
def lkOf (len : Int) (rs : Rt) : Tb := rs.map fun p => (p.1, lEnds len p.2)
theorem ends_eq {len : Int} (h : 0 < len) (r : List (Int × Int)) : endsOf len r = lEnds len r := by
  unfold endsOf lEnds
  refine List.map_congr_left fun n _ => ?_
  unfold endAt lEndAt
  congr 1
  refine List.map_congr_left fun q _ => ?_
  have := Int.mul_ediv_add_emod (q.1 - n) len
  omega
theorem lEnds_good {len : Int} (h : 0 < len ∧ len ≤ 60) {r : List (Int × Int)} (g : GoodR r) : Good (lEnds len r) ∧ (lEnds len r).length = len.toNat := by
  have hl : (lEnds len r).length = len.toNat := by unfold lEnds; rw [List.length_map, upto_len]
  refine ⟨⟨by omega, by omega, fun i x hx => ?_⟩, hl⟩
  have hi : i < len.toNat := by have := (List.getElem?_eq_some_iff.mp hx).1; omega
  have hx2 : x = lEndAt len r (0 + (i : Int)) := by
    unfold lEnds at hx
    rw [List.getElem?_map, upto_at hi] at hx
    exact (Option.some.inj hx).symm
  have hne : r.map (fun q => (0 + (i : Int)) + (q.1 - (0 + (i : Int))) % len + q.2 - q.1) ≠ [] := fun z => by
    have h2 := congrArg List.length z
    have := g.pos
    rw [List.length_map, List.length_nil] at h2
    omega
  obtain ⟨q, hq, e⟩ := List.mem_map.mp (minL_mem hne)
  have h3 := g.le q hq
  have h4 := Int.emod_nonneg (q.1 - (0 + (i : Int))) (show len ≠ 0 by omega)
  have h5 := Int.emod_lt_of_pos (q.1 - (0 + (i : Int))) h.1
  unfold lEndAt at hx2
  rw [← e] at hx2
  omega
def cMade (CD CT : Addr) : Ctr := fun _ as res => ∃ (len : Int) (rs : Rt), (0 < len ∧ len ≤ 60) ∧ GoodRt rs ∧ as = [.val rInt len, .val (rDic rRid) rs] ∧ res = (fun u => u = .val (rPair (rTable CD CT) rLk) (tabOf (dsOf len rs), lkOf len rs))
theorem map_keys {α β : Type} (f : α → β) (rs : List (Str × α)) : (rs.map fun p => (p.1, f p.2)).map (·.1) = rs.map (·.1) := by rw [List.map_map]; rfl
theorem lookup_map {α β : Type} (f : α → β) (s : Str) : ∀ rs : List (Str × α), (rs.map fun p => (p.1, f p.2)).lookup s = (rs.lookup s).map f
  | [] => rfl
  | p :: rs => by
    rw [List.map_cons, List.lookup_cons, List.lookup_cons]
    cases (s == p.1) with
    | true => rfl
    | false => exact lookup_map f s rs
theorem lk_good {len : Int} (h : 0 < len ∧ len ≤ 60) {rs : Rt} (g : GoodRt rs) : GoodT (lkOf len rs) len.toNat := by
  refine ⟨fun z => g.ne (by simpa [lkOf] using z), by unfold lkOf; rw [map_keys]; exact g.nd, fun s hs => g.low s (by unfold lkOf at hs; rw [map_keys] at hs; exact hs), fun s l hl => ?_⟩
  unfold lkOf at hl
  rw [lookup_map] at hl
  cases e : rs.lookup s with
  | none => rw [e] at hl; cases hl
  | some r =>
    rw [e] at hl
    cases hl
    exact lEnds_good h (g.good _ (lookup_mem e))
theorem ds_lk {len : Int} (h : 0 < len) (rs : Rt) : dsOf len rs = lkOf len rs := by
  unfold dsOf lkOf
  refine List.map_congr_left fun p _ => ?_
  rw [ends_eq h]
section
variable {P : Program} {w : World} {K : PySem.W.Frag} {mg : Str → Option Value} {base : Heap} {f f1 f2 f3 f4 CD CT : Addr} {fd fd1 fd2 fd3 fd4 : FuncData} {tk tk2 : Tok}
theorem len_lAges {t : Tb} {n : Nat} {z : Str} : (lAges t n z).length = n := by simp [lAges, upto_len]
theorem sc_made : FnScope ["length", "rides", "daily", "letter"] ["length", "rides"] (defScope (top 64)) := ⟨rfl, rfl, rfl, by decide +kernel, rfl, by decide +kernel, by decide +kernel⟩
theorem ok_made (F : Fun K "_law_made" "_law_made" (top 64) f fd) (B : Bn mg) (D1 : MkrC P w K mg base "Daily" CD 4 fd1 ["self", "length", "rides"] φD iDaily) (D2 : MkrC P w K mg base "DailyTable" CT 3 fd2 ["self", "dailies"] (φT CD) (iTable CD)) (D3 : DefC P w K mg base "_law_ends" 1 f3 fd3 ["length", "rides"] cLEnds) : FnOk P w K mg base CX0 6 f fd ["length", "rides"] (spC (cMade CD CT)) := by
  refine fn_mk F sc_made (fun _ _ _ ⟨_, _, _, _, h, _⟩ => by rw [h]; rfl) fun cdv A outer s H E hr M as res ⟨len, rs, hl, g, ha, hres⟩ => ?_
  subst ha hres
  have hz : rs.length ≤ 16777216 := by
    have := List.Nodup.length_le_of_subset g.nd (l₂ := lows) fun s hs => g.low s hs
    rw [List.length_map] at this
    have e : lows.length = 4 := rfl
    omega
  have gk := lk_good hl g
  have look : ∀ {α : Type} (fn : List (Int × Int) → α), (rs.map (·.1)).map (fun s => (s, fn ((rs.lookup s).getD []))) = rs.map fun p => (p.1, fn p.2) := fun {α} fn => by
    rw [List.map_map]
    refine List.map_congr_left fun p hp => ?_
    have : rs.lookup p.1 = some p.2 := by
      have q : ∀ {l : Rt}, (l.map (·.1)).Nodup → p ∈ l → l.lookup p.1 = some p.2 := fun {l} => by
        induction l with
        | nil => intro _ h; cases h
        | cons a l ih =>
          intro nd h
          rw [List.lookup_cons]
          rw [List.map_cons, List.nodup_cons] at nd
          rcases List.mem_cons.mp h with e | e
          · rw [e]; rw [beq_self_eq_true]
          · have ne : (p.1 == a.1) = false := by
              cases q : (p.1 == a.1) with
              | false => rfl
              | true => exact absurd (by rw [← eq_of_beq q]; exact List.mem_map_of_mem e) nd.1
            rw [ne]; exact ih nd.2 e
      exact q g.nd hp
    simp [this]
  have gr : ∀ {y : Str}, y ∈ rs.map (·.1) → ∃ r, rs.lookup y = some r ∧ GoodR r := fun {y} hy => by
    obtain ⟨r, e⟩ := Option.isSome_iff_exists.mp (lookup_some hy)
    exact ⟨r, e, g.good _ (lookup_mem e)⟩
  refine ss_set (x := dsOf len rs) 2 sc_made.nd (ev_dictP (Pl := fun y => y = dsOf len rs) B.dict rfl (EFt.ev ((ef_lc0 (S := rPair rStr (rDaily CD)) (g := fun s => (s, endsOf len ((rs.lookup s).getD []))) (own := [("letter", 3)]) rfl sc_made.nd (it_dic hz (ev_var 1)) (blkOk_by (by kernel_rfl)) (by decide) (fun _ _ _ _ _ _ => tg_name 3 sc_made.nd)
    (fun _ _ _ _ _ y hy => by
      obtain ⟨r, er, hg⟩ := gr hy
      refine ev_pair (ea_cons (ev_var 3) (ea_cons (ev_makeP (Py := fun z => z = endsOf len ((rs.lookup y).getD [])) D1 hr (ea_cons (ev_var 0) (ea_cons (ev_dget (x := r) (hr.lt 1) (ev_var 1) (ev_var 3) er) ea_nil)) (fun as e => ⟨len, r, by omega, hg.pos, hg.len, fun q hq => (hg.le q hq).1, e, by rw [er]; rfl⟩)) ea_nil)))).imp fun y e => by rw [e]; exact look _)) (fun l e => by rw [e]; unfold dsOf; rw [map_keys]; exact g.nd)) ?_
  refine ss_retV (ev_pair (ea_cons (ev_makeP (Py := fun z => z = tabOf (dsOf len rs)) D2 (hr.mono (by decide)) (ea_cons (ev_var 2) ea_nil) (fun as e => ⟨dsOf len rs, len.toNat, by rw [ds_lk hl.1]; exact gk, e, rfl⟩)) (ea_cons (ev_dictP (Pl := fun y => y = lkOf len rs) B.dict rfl (EFt.ev ((ef_lc0 (S := rPair rStr (rLst rInt)) (g := fun s => (s, lEnds len ((rs.lookup s).getD []))) (own := [("letter", 3)]) rfl sc_made.nd (it_dic hz (ev_var 1)) (blkOk_by (by kernel_rfl)) (by decide) (fun _ _ _ _ _ _ => tg_name 3 sc_made.nd)
    (fun _ _ _ _ _ y hy => by
      obtain ⟨r, er, hg⟩ := gr hy
      refine ev_pair (ea_cons (ev_var 3) (ea_cons (ev_call D3 (hr.mono (by decide)) (ea_cons (ev_var 0) (ea_cons (ev_dget (x := r) (hr.lt 1) (ev_var 1) (ev_var 3) er) ea_nil)) ⟨len, r, hl, hg.pos, hg.len, rfl, by rw [er]; rfl⟩) ea_nil)))).imp fun y e => by rw [e]; exact look _)) (fun l e => by rw [e]; unfold lkOf; rw [map_keys]; exact g.nd)) ea_nil))) rfl
end
end My

namespace My
open PySem L2 RT
def cRides : CtrS := fun M N as res => ∃ (st g c : Addr) (n : Nat) (len : Int), n ≤ 10 ^ 12 ∧ M = MdS st g c n ∧ N = MdS st g c (n + 30) ∧ (0 < len ∧ len ≤ 60) ∧ as = [.adr st, .val rInt len] ∧ res = (fun u => ∃ r, GoodR r ∧ u = .val rRid r)
theorem lay_strs : ∀ l : List Str, (∀ x ∈ l, PyData.canLay0 (.str x) = true) → PyData.canLayAll0 (l.map PyData.str) = true
  | [], _ => rfl
  | x :: l, h => by
    show (PyData.canLay0 (.str x) && PyData.canLayAll0 (l.map PyData.str)) = true
    rw [h x List.mem_cons_self, lay_strs l fun y hy => h y (List.mem_cons_of_mem _ hy)]; rfl
theorem depth_strs : ∀ l : List Str, PyData.depthAll (l.map PyData.str) = 0
  | [] => rfl
  | x :: l => by
    show max (PyData.depth (.str x)) (PyData.depthAll (l.map PyData.str)) = 0
    rw [depth_strs l]; rfl
theorem shaped_strs {l : List Str} (h : ∀ x ∈ l, PyData.canLay0 (.str x) = true) : SeqAt.shaped (.list (l.map PyData.str)) = true := by
  show (PyData.canLayAll0 (l.map PyData.str) && decide (PyData.depthAll (l.map PyData.str) + 1 ≤ 64)) = true
  rw [lay_strs l h, depth_strs]; decide
theorem perm_erase {α : Type} : ∀ (l : List α) (k : Nat) (h : k < l.length), (l[k] :: l.eraseIdx k).Perm l
  | [], _, h => absurd h (by simp)
  | a :: l, 0, _ => List.Perm.refl _
  | a :: l, k + 1, h => by
    have hk : k < l.length := by simpa using h
    exact (List.Perm.swap a l[k] _).trans ((perm_erase l k hk).cons a)
section
variable {P : Program} {w : World} {K : PySem.W.Frag} {mg : Str → Option Value} {base : Heap} {f f1 f2 f3 f4 CD CT : Addr} {fd fd1 fd2 fd3 fd4 : FuncData} {tk tk2 : Tok}
theorem sc_shuf : FnScope ["state", "some", "left", "found"] ["state", "some"] (defScope (top 56)) := ⟨rfl, rfl, rfl, by decide +kernel, rfl, by decide +kernel, by decide +kernel⟩
theorem ok_shuf (F : Fun K "_law_shuffled" "_law_shuffled" (top 56) f fd) (B : Bn mg) (D1 : DefSC P w K mg base "_law_draw" 2 f1 fd1 ["state", "room"] cDraw) : FnOk P w K mg base CX0 3 f fd ["state", "some"] (spS cShuf) := by
  refine fnS_mk F sc_shuf (fun _ _ _ _ ⟨_, _, _, _, _, _, _, _, _, _, h, _⟩ => by rw [h]; rfl) fun cdv A outer s H E hr M N as res ⟨xs, st, g, c, n, hn, hM, hN, hz, hlay, ha, hres⟩ => ?_
  subst ha hres hM hN
  refine ss_parFF (xs := xs) (ys := ([] : List Str)) (R := rStr) (S := rStr) 2 3 rfl sc_shuf.nd (by decide) (ef_listL B.list (ev_var 1)) (ef_lst ea_same) ?_
  refine ss_while (fun m => MdS st g c (n + (xs.length - m))) (MdS st g c (n + xs.length)) (fun m Γ => ∃ l fs : List Str, l.length = m ∧ (fs ++ l).Perm xs ∧ Γ = [.adr st, .val (rLst rStr) xs, .own rStr l, .own rStr fs]) PassesOwn.never xs.length (by rw [Nat.sub_self]; rfl) (fun _ => rfl) _ (Weak.refl _) ⟨xs, [], rfl, by simp, rfl⟩ (fun m => Le.up (by omega)) (fun m Γ1 ⟨l, fs, hl, hp, e⟩ => ?_)
  subst e
  have hlx : ∀ x ∈ l, PyData.canLay0 (.str x) = true := fun x hx => hlay x (hp.mem_iff.mp (List.mem_append_right _ hx))
  have hlen : fs.length + l.length = xs.length := by have := hp.length_eq; rw [List.length_append] at this; exact this
  refine ⟨!l.isEmpty, tv_view 2 rfl (tv_is (tv_cmp1 (ev_neD (d1 := .list (l.map PyData.str)) (d2 := .list []) (hr.lt 64) (ev_var 2) (EFt.ev (ef_lst (R := rStr) (xs := []) ea_same (by decide))) (hd_lst PyData.str fun x _ => hd_str) (hd_lst (R := rStr) (xs := []) PyData.str fun x _ => hd_str) (shaped_strs hlx) (by decide))) (by cases l <;> rfl)), fun ht => ?_, fun hf => ?_⟩
  · have hl0 : 0 < l.length := by cases l with
      | nil => cases ht
      | cons _ _ => simp
    refine ⟨m - 1, by omega, ?_⟩
    refine ss_appendPop (Pi := fun i => 0 ≤ i ∧ i < l.length) (M1 := MdS st g c (n + (xs.length - m) + 1)) 3 2 (by decide) rfl rfl (by omega) (ev_callS D1 (hr.mono (by decide)) (ea_adr 0 rfl (ea_cons (ev_viewI 2 rfl (ev_lenL (xs := l) (R := rStr) B.len (ev_var 2))) ea_nil)) (fun as ⟨r, e1, e2⟩ => ⟨_, ⟨st, g, c, n + (xs.length - m), (l.length : Int), by omega, rfl, rfl, by omega, by rw [e2, e1], rfl⟩, fun u hu => hu⟩)) (fun i hi => hi) (fun k x hx => ?_)
    have hk : k < l.length := (List.getElem?_eq_some_iff.mp hx).1
    refine ss_nil ⟨l.eraseIdx k, fs ++ [x], by rw [List.length_eraseIdx_of_lt hk]; omega, ?_, rfl⟩ (Le.up (by omega))
    refine List.Perm.trans ?_ hp
    rw [List.append_assoc]
    refine List.Perm.append_left fs ?_
    have := (List.getElem?_eq_some_iff.mp hx).2
    rw [← this]
    exact perm_erase l k hk
  · have hl0 : l = [] := by cases l with
      | nil => rfl
      | cons _ _ => cases hf
    subst hl0
    rw [List.append_nil] at hp
    exact ss_freeze 3 rfl (ss_retV (ev_var 3) ⟨fs, hp, rfl⟩)
theorem sc_rides : FnScope ["state", "length", "found", "most", "lap", "begin"] ["state", "length"] (defScope (top 59)) := ⟨rfl, rfl, rfl, by decide +kernel, rfl, by decide +kernel, by decide +kernel⟩
theorem ok_rides (F : Fun K "_law_rides" "_law_rides" (top 59) f fd) (B : Bn mg) (D1 : DefSC P w K mg base "_law_draw" 2 f1 fd1 ["state", "room"] cDraw) (D2 : DefSC P w K mg base "_law_pick" 3 f2 fd2 ["state", "some"] cPick) : FnOk P w K mg base CX0 4 f fd ["state", "length"] (spS cRides) := by
  refine fnS_mk F sc_rides (fun _ _ _ _ ⟨_, _, _, _, _, _, _, _, _, h, _⟩ => by rw [h]; rfl) fun cdv A outer s H E hr M N as res ⟨st, g, c, n, len, hn, hM, hN, hl, ha, hres⟩ => ?_
  subst ha hres hM hN
  refine ss_parFV (P2 := fun y : Int => 0 ≤ y ∧ y ≤ 120) (xs := ([] : List (Int × Int))) (R := rPair rInt rInt) (S := rInt) (M1 := MdS st g c (n + 1)) 2 3 rfl sc_rides.nd (by decide) (ef_lst ea_same) (ev_callS D2 hr (ea_adr 0 rfl (ea_cons (EFt.ev (ef_lst (R := rInt) (xs := [0, 1, 3, len, 2 * len]) (ea_cons ev_int (ea_cons ev_int (ea_cons ev_int (ea_cons (ev_var 1) (ea_cons (ev_mul ev_int (ev_var 1) (.inl (by decide))) ea_same)))))  (by simp))) ea_nil)) (fun as ⟨r, e1, e2⟩ => ⟨_, ⟨Int, rInt, [0, 1, 3, len, 2 * len], st, g, c, n, by omega, rfl, rfl, by simp, by rw [e2, e1], rfl⟩, fun u ⟨x, hx, hu⟩ => ⟨x, by simp at hx; omega, hu⟩⟩)) (fun most hmost => ?_)
  refine ss_forT (P := fun xs => ∃ i : Int, (1 ≤ i ∧ i ≤ 8) ∧ xs = upto 0 i.toNat) (M0 := MdS st g c (n + 3)) (fun i => MdS st g c (n + 3 + 3 * i)) (MdS st g c (n + 30)) PassesOwn.never rfl (it_range1P (N := MdS st g c (n + 3)) (Pi := fun i => 1 ≤ i ∧ i ≤ 8) B.range (ev_addP (M1 := MdS st g c (n + 1)) (Pi := fun i => i = 1) (Pj := fun j => 0 ≤ j ∧ j < 8) ev_int
      (ev_callS (M1 := MdS st g c (n + 2)) D1 (hr.mono (by decide)) (ea_adr 0 rfl (ea_consP (P := fun x : Int => x = 2 ∨ x = 4 ∨ x = 8) (A := fun as => as = []) (M1 := MdS st g c (n + 2)) (ev_callS (M1 := MdS st g c (n + 1)) D2 hr (ea_adr 0 rfl (ea_cons (EFt.ev (ef_lst (R := rInt) (xs := [2, 4, 8]) (ea_cons ev_int (ea_cons ev_int (ea_cons ev_int ea_same))) (by simp))) ea_nil)) (fun as ⟨r, e1, e2⟩ => ⟨_, ⟨Int, rInt, [2, 4, 8], st, g, c, n + 1, by omega, rfl, rfl, by simp, by rw [e2, e1], rfl⟩, fun u ⟨x, hx, hu⟩ => ⟨x, by simpa using hx, hu⟩⟩)) ea_nil))
        (fun as ⟨r, ⟨x, r2, hx, e3, e4⟩, e2⟩ => ⟨_, ⟨st, g, c, n + 2, x, by omega, rfl, rfl, by omega, by rw [e2, e4, e3], rfl⟩, fun u ⟨y, hy, hu⟩ => ⟨y, by omega, hu⟩⟩)) (fun i j h1 h2 => by omega)) (fun i h => by omega)) (fun _ => tg_name 4 sc_rides.nd)
    (fun xs i Γ => ∃ acc : List (Int × Int), (∀ q ∈ acc, q.1 ≤ q.2 ∧ q.2 ≤ q.1 + 500) ∧ acc.length = i ∧ Γ = [.adr st, .val rInt len, .own (rPair rInt rInt) acc, .val rInt most, .any, .any]) (fun xs _ => ⟨[.adr st, .val rInt len, .own (rPair rInt rInt) [], .val rInt most, .any, .any], ⟨.inr rfl, .inr rfl, .inr rfl, .inr rfl, .inl rfl, .inl rfl, trivial⟩, [], (fun q hq => (by cases hq)), rfl, rfl⟩) (fun xs i x Γi hxs hz hx ⟨acc, hacc, hal, e⟩ => ?_) rfl (fun _ => rfl) (fun xs i ⟨k, hk, e⟩ hi => Le.up (by rw [e, upto_len] at hi; omega)) (fun xs Γ' ⟨k, hk, e⟩ ⟨acc, hacc, hal, e2⟩ => ?_)
  · subst e
    obtain ⟨k, hk, ek⟩ := hxs
    have hi8 : i < 8 := by have := (List.getElem?_eq_some_iff.mp hx).1; rw [ek, upto_len] at this; omega
    refine ss_setP (P := fun _ => True) (M1 := MdS st g c (n + 3 + 3 * i + 2)) 5 sc_rides.nd (ev_addP (M1 := MdS st g c (n + 3 + 3 * i + 1)) (Pi := fun _ => True) (Pj := fun _ => True) (ev_callS (M1 := MdS st g c (n + 3 + 3 * i)) D1 (hr.mono (by decide)) (ea_adr 0 rfl (ea_cons (R := rInt) (x := len) (ev_var 1) ea_nil)) (fun as ⟨r, e1, e2⟩ => ⟨_, ⟨st, g, c, n + 3 + 3 * i, len, by omega, rfl, rfl, by omega, by rw [e2, e1], rfl⟩, fun u ⟨y, hy, hu⟩ => ⟨y, trivial, hu⟩⟩))
      (ev_callS (M1 := MdS st g c (n + 3 + 3 * i + 1)) D2 hr (ea_adr 0 rfl (ea_cons (EFt.ev (ef_lst (R := rInt) (xs := [0, 0, 0, len, 0 - len, 5 * len]) (ea_cons ev_int (ea_cons ev_int (ea_cons ev_int (ea_cons (ev_var 1) (ea_cons (ev_sub ev_int (ev_var 1)) (ea_cons (ev_mul ev_int (ev_var 1) (.inl (by decide))) ea_same)))))) (by simp))) ea_nil)) (fun as ⟨r, e1, e2⟩ => ⟨_, ⟨Int, rInt, [0, 0, 0, len, 0 - len, 5 * len], st, g, c, n + 3 + 3 * i + 1, by omega, rfl, rfl, by simp, by rw [e2, e1], rfl⟩, fun u ⟨x, hx, hu⟩ => ⟨x, trivial, hu⟩⟩)) (fun _ _ _ _ => trivial)) (fun b _ => ?_)
    refine ss_appendP (Pa := fun q : Int × Int => q.1 = b ∧ b ≤ q.2 ∧ q.2 ≤ b + 500) (M1 := MdS st g c (n + 3 + 3 * i + 3)) 2 rfl (by omega) (ev_pairP (M1 := MdS st g c (n + 3 + 3 * i + 2)) (P := fun x => x = b) (P2 := fun y => b ≤ y ∧ y ≤ b + 500) (ev_var 5) (ev_addP (M1 := MdS st g c (n + 3 + 3 * i + 2)) (Pi := fun x => x = b) (Pj := fun y => 0 ≤ y ∧ y < 121) (ev_var 5)
      (ev_callS (M1 := MdS st g c (n + 3 + 3 * i + 2)) D1 (hr.mono (by decide)) (ea_adr 0 rfl (ea_cons (R := rInt) (x := most + 1) (ev_add (ev_var 3) (ev_int (i := 1))) ea_nil)) (fun as ⟨r, e1, e2⟩ => ⟨_, ⟨st, g, c, n + 3 + 3 * i + 2, most + 1, by omega, rfl, rfl, by omega, by rw [e2, e1], rfl⟩, fun u ⟨y, hy, hu⟩ => ⟨y, by omega, hu⟩⟩)) (fun i j h1 h2 => by omega))) (fun q hq => ?_)
    refine ss_nilW (Γ' := [.adr st, .val rInt len, .own (rPair rInt rInt) (acc ++ [q]), .val rInt most, .any, .any]) ⟨.inr rfl, .inr rfl, .inr rfl, .inr rfl, .inl rfl, .inl rfl, trivial⟩ ⟨acc ++ [q], fun q' hq' => ?_, by simp [hal], rfl⟩ (Le.up (by omega))
    rcases List.mem_append.mp hq' with h | h
    · exact hacc q' h
    · rw [List.mem_singleton.mp h]; omega
  · subst e2
    have hxl : xs.length = k.toNat := by rw [e, upto_len]
    exact ss_freeze 2 rfl (ss_retV (ev_var 2) ⟨acc, ⟨by omega, by omega, hacc⟩, rfl⟩)
end
end My

namespace My
open PySem L2 RT
def cRelay : CtrS := fun M N as res => ∃ (st g c : Addr) (n : Nat) (t : Tb) (len : Nat) (most : Int), n ≤ 10 ^ 12 ∧ M = MdS st g c n ∧ N = MdS st g c (n + 20) ∧ GoodT t len ∧ (1 ≤ most ∧ most ≤ 12) ∧ as = [.adr st, .val rLk t, .val rInt most] ∧ res = (fun u => ∃ z, Rel t z ∧ u = .val rStr z)
def cTable : CtrS := fun M N as res => ∃ (st g c : Addr) (n : Nat) (most many : Int), n ≤ 10 ^ 11 ∧ M = MdS st g c n ∧ N = MdS st g c (n + 130) ∧ 1 ≤ most ∧ (1 ≤ many ∧ many ≤ 4) ∧ as = [.adr st, .val rInt most, .val rInt many] ∧ res = (fun u => ∃ q : Int × Rt, (0 < q.1 ∧ q.1 ≤ 60 ∧ q.1 ≤ most ∧ GoodRt q.2) ∧ u = .val (rPair rInt (rDic rRid)) q)
theorem paired_all {α β : Type} {p : β → Prop} : ∀ {l : List α} {m : List β}, Paired (fun _ y => p y) l m → (∀ y ∈ m, p y) ∧ m.length = l.length
  | _, _, .nil => ⟨(fun y h => (by cases h)), rfl⟩
  | _, _, .cons h t => by
    obtain ⟨a, b⟩ := paired_all t
    refine ⟨fun y hy => ?_, by simp [b]⟩
    rcases List.mem_cons.mp hy with e | e
    · rw [e]; exact h
    · exact a y e
theorem paired_keys {β : Type} {p : β → Prop} : ∀ {l : List Str} {m : List (Str × β)}, Paired (fun x y => y.1 = x ∧ p y.2) l m → m.map (·.1) = l ∧ ∀ q ∈ m, p q.2
  | _, _, .nil => ⟨rfl, (fun y h => (by cases h))⟩
  | _, _, .cons h t => by
    obtain ⟨a, b⟩ := paired_keys t
    refine ⟨by rw [List.map_cons, a, h.1], fun y hy => ?_⟩
    rcases List.mem_cons.mp hy with e | e
    · rw [e]; exact h.2
    · exact b y e
theorem sum_ones : ∀ l : List Str, (∀ s ∈ l, s.length = 1) → (l.map (·.length)).sum = l.length
  | [], _ => rfl
  | a :: l, h => by rw [List.map_cons, List.sum_cons, sum_ones l fun s hs => h s (List.mem_cons_of_mem _ hs), h a List.mem_cons_self, List.length_cons]; omega
section
variable {P : Program} {w : World} {K : PySem.W.Frag} {mg : Str → Option Value} {base : Heap} {f f1 f2 f3 f4 CD CT : Addr} {fd fd1 fd2 fd3 fd4 : FuncData} {tk tk2 : Tok}
theorem sc_relay : FnScope ["state", "links", "most", "letters", "letter", "lap"] ["state", "links", "most"] (defScope (top 65)) := ⟨rfl, rfl, rfl, by decide +kernel, rfl, by decide +kernel, by decide +kernel⟩
theorem ok_relay (F : Fun K "_law_relay" "_law_relay" (top 65) f fd) (B : Bn mg) (D1 : DefSC P w K mg base "_law_draw" 2 f1 fd1 ["state", "room"] cDraw) (D2 : DefSC P w K mg base "_law_pick" 3 f2 fd2 ["state", "some"] cPick) : FnOk P w K mg base CX0 4 f fd ["state", "links", "most"] (spS cRelay) := by
  refine fnS_mk F sc_relay (fun _ _ _ _ ⟨_, _, _, _, _, _, _, _, _, _, _, _, h, _⟩ => by rw [h]; rfl) fun cdv A outer s H E hr M N as res ⟨st, g, c, n, t, len, most, hn, hM, hN, gt, hm, ha, hres⟩ => ?_
  subst ha hres hM hN
  refine ss_setP (M1 := MdS st g c n) (R := rLst rStr) (P := fun ls => 0 < ls.length ∧ ls.length ≤ 4 ∧ ∀ s ∈ ls, s ∈ ups ∧ (t.lookup (Txt.lower s)).isSome) 3 sc_relay.nd (EFt.ev ((ef_lcQ (S := rStr) (Py := fun x y => y = Txt.upper x) (own := [("letter", 4)]) rfl sc_relay.nd (it_list (EFt.ev (ef_sortedD (kvs := t) (R := rLst rInt) B.sorted rfl (ev_var 1) (by have := gt.sum; omega)))) (blkOk_by (by kernel_rfl)) (by decide) (fun _ _ _ _ _ _ => tg_name 4 sc_relay.nd)
    (fun _ _ _ _ _ xs x hp hx => ev_upper (ev_var 4) (by
      have := gt.one (hp.mem_iff.mp hx)
      rw [this.2]; decide))).imp fun ys ⟨xs, hp, pr⟩ => by
      have e := paired_map pr
      have hl := hp.length_eq
      rw [List.length_map] at hl
      have h0 : 0 < t.length := by
        cases q : t with
        | nil => exact absurd q gt.ne
        | cons _ _ => simp
      have h4 := gt.sum
      refine ⟨by rw [e, List.length_map]; omega, by rw [e, List.length_map]; omega, fun s hs => ?_⟩
      rw [e] at hs
      obtain ⟨x, hx, rfl⟩ := List.mem_map.mp hs
      have hk := hp.mem_iff.mp hx
      obtain ⟨f1, f2, f3, f4, f5⟩ := low_facts x (gt.low x hk)
      exact ⟨f4, by rw [f5]; exact lookup_some hk⟩)) (fun ls hls => ?_)
  have one : ∀ s ∈ ls, s.cps.size = 1 ∧ s.length = 1 := fun s hs => let h := up_facts s (hls.2.2 s hs).1; ⟨h.1, h.2.1⟩
  refine ss_ret (M1 := MdS st g c (n + 20)) (P := fun z => Rel t z) (EVt.imp (ev_joinLP (Pl := fun ys => (∀ y ∈ ys, y ∈ ls) ∧ 0 < ys.length ∧ ys.length ≤ 12) ev_str (EFt.ev ((ef_lcT (N := MdS st g c (n + 20)) (P := fun xs => ∃ i : Int, (1 ≤ i ∧ i ≤ 12) ∧ xs = upto 0 i.toNat) (pb := fun _ => true) (Py := fun _ y => y ∈ ls) (fun i => MdS st g c (n + 1 + i)) (own := [("lap", 5)]) rfl sc_relay.nd (it_range1P (N := MdS st g c (n + 1)) (Pi := fun i => 1 ≤ i ∧ i ≤ 12) B.range (ev_addP (M1 := MdS st g c n) (Pi := fun i => i = 1) (Pj := fun j => 0 ≤ j ∧ j < most) ev_int
      (ev_callS (M1 := MdS st g c n) D1 (hr.mono (by decide)) (ea_adr 0 rfl (ea_cons (R := rInt) (x := most) (ev_var 2) ea_nil)) (fun as ⟨r, e1, e2⟩ => ⟨_, ⟨st, g, c, n, most, by omega, rfl, rfl, by omega, by rw [e2, e1], rfl⟩, fun u hu => hu⟩)) (fun i j h1 h2 => by omega)) (fun i h => by omega)) (blkOk_by (by kernel_rfl)) (by decide) rfl (fun _ => rfl) (fun xs ⟨i, hi, e⟩ => Le.up (by rw [e, upto_len]; omega)) (fun i => Le.up (by omega)) (fun _ _ _ _ _ _ => tg_name 5 sc_relay.nd) (fun _ _ _ _ _ _ _ _ _ _ => ts_nil)
      (fun s1 H1 C1 cl1 fp1 xs i x ⟨k, hk, ek⟩ hx _ => by
        have hi12 : i < 12 := by have := (List.getElem?_eq_some_iff.mp hx).1; rw [ek, upto_len] at this; omega
        exact ev_callS (M1 := MdS st g c (n + 1 + i)) D2 hr (ea_adr 0 rfl (ea_cons (R := rLst rStr) (x := ls) (ev_var 3) ea_nil)) (fun as ⟨r, e1, e2⟩ => ⟨_, ⟨Str, rStr, ls, st, g, c, n + 1 + i, by omega, rfl, rfl, by omega, by rw [e2, e1], rfl⟩, fun u hu => hu⟩))).imp fun ys ⟨xs, ⟨i, hi, ex⟩, pr⟩ => by
      rw [filter_yes] at pr
      obtain ⟨h1, h2⟩ := paired_all pr
      rw [ex, upto_len] at h2
      exact ⟨h1, by omega, by omega⟩)) (fun ss ⟨h1, h2, h3⟩ => by
      rw [sum_ones ss fun s hs => (one s (h1 s hs)).2]
      show _ + _ * 0 ≤ _
      omega)) (fun z ⟨ss, ⟨h1, h2, h3⟩, e⟩ => by
      have es : signs z = ss := by rw [e]; exact signs_join fun s hs => (one s (h1 s hs)).1
      have el : z.length = ss.length := by rw [← len_signs, es]
      exact ⟨fun s hs => by rw [es] at hs; exact hls.2.2 s (h1 s hs), by omega, by omega⟩)) (fun z hz => ⟨z, hz, rfl⟩)
end
end My

namespace My
open PySem L2 RT
section
variable {P : Program} {w : World} {K : PySem.W.Frag} {mg : Str → Option Value} {base : Heap} {f f1 f2 f3 f4 CD CT : Addr} {fd fd1 fd2 fd3 fd4 : FuncData} {tk tk2 : Tok}
def lens : List Int := [1, 2, 3, 4, 5, 7, 10, 12, 24, 60]
theorem lens_ok : ∀ x ∈ lens, 0 < x ∧ x ≤ 60 := by decide
theorem sc_table : FnScope ["state", "most", "many", "length", "letters", "one", "letter"] ["state", "most", "many"] (defScope (top 63)) := ⟨rfl, rfl, rfl, by decide +kernel, rfl, by decide +kernel, by decide +kernel⟩
set_option maxHeartbeats 2000000 in
theorem ok_table (F : Fun K "_law_table" "_law_table" (top 63) f fd) (B : Bn mg) (D1 : DefSC P w K mg base "_law_draw" 2 f1 fd1 ["state", "room"] cDraw) (D2 : DefSC P w K mg base "_law_pick" 3 f2 fd2 ["state", "some"] cPick) (D3 : DefSC P w K mg base "_law_shuffled" 3 f3 fd3 ["state", "some"] cShuf) (D4 : DefSC P w K mg base "_law_rides" 4 f4 fd4 ["state", "length"] cRides) : FnOk P w K mg base CX0 5 f fd ["state", "most", "many"] (spS cTable) := by
  refine fnS_mk F sc_table (fun _ _ _ _ ⟨_, _, _, _, _, _, _, _, _, _, _, h, _⟩ => by rw [h]; rfl) fun cdv A outer s H E hr M N as res ⟨st, g, c, n, most, many, hn, hM, hN, hm, hmany, ha, hres⟩ => ?_
  subst ha hres hM hN
  have hpos : 0 < (lens.filter fun x => decide (x ≤ most)).length := List.length_pos_of_mem (a := 1) (List.mem_filter.mpr ⟨by decide, by simpa using hm⟩)
  have hle : (lens.filter fun x => decide (x ≤ most)).length ≤ 1000 := Nat.le_trans (List.length_filter_le _ _) (by decide)
  refine ss_setP (M1 := MdS st g c (n + 1)) (R := rInt) (P := fun x => 0 < x ∧ x ≤ 60 ∧ x ≤ most) 3 sc_table.nd (ev_callS (M1 := MdS st g c n) D2 (hr.mono (by decide)) (ea_adr 0 rfl (ea_cons (R := rLst rInt) (x := (lens.filter fun x => decide (x ≤ most)).map fun x => x) (EFt.ev (ef_lc (pb := fun x => decide (x ≤ most)) (g := fun x => x) (own := [("one", 5)]) rfl sc_table.nd (it_list (EFt.ev (ef_ints lens (by rfl)))) (blkOk_by (by kernel_rfl)) (by decide) (fun _ _ _ _ _ _ => tg_name 5 sc_table.nd) (fun _ _ _ _ _ x hx => ts_one (tv_cmp1 (ev_le (ev_var 5) (ev_var 1)))) (fun _ _ _ _ _ x hx _ => ev_var 5))) ea_nil)) (fun as ⟨r, e1, e2⟩ => ⟨_, ⟨Int, rInt, (lens.filter fun x => decide (x ≤ most)).map (fun x => x), st, g, c, n, by omega, rfl, rfl, by rw [List.length_map]; exact ⟨hpos, hle⟩, by rw [e2, e1], rfl⟩, fun u ⟨x, hx, hu⟩ => ⟨x, by
      rw [List.map_id'] at hx
      obtain ⟨h1, h2⟩ := List.mem_filter.mp hx
      have := lens_ok x h1
      exact ⟨this.1, this.2, of_decide_eq_true h2⟩, hu⟩⟩)) (fun len hlen => ?_)
  refine ss_setFP (M1 := MdS st g c (n + 6)) (R := rStr) (P := fun ls => ls.Nodup ∧ (∀ s ∈ ls, s ∈ lows) ∧ 0 < ls.length ∧ ls.length ≤ 4) 4 sc_table.nd ((ef_sortedS (N := MdS st g c (n + 6)) (Pl := fun l => ∃ (xs : List Str) (i : Int), List.Perm xs lows ∧ (1 ≤ i ∧ i ≤ 4) ∧ l = xs.take i.toNat) B.sorted (EFt.ev (ef_to (M1 := MdS st g c (n + 5)) (Pl := fun xs => List.Perm xs lows) (Pi := fun i => 1 ≤ i ∧ i ≤ 4)
      (ev_callS (M1 := MdS st g c (n + 1)) D3 (hr.mono (by decide)) (ea_adr 0 rfl (ea_cons (R := rLst rStr) (x := lows) (EFt.ev (ef_strs lows (by rfl))) ea_nil)) (fun as ⟨r, e1, e2⟩ => ⟨_, ⟨lows, st, g, c, n + 1, (by have : lows.length = 4 := rfl; omega), rfl, rfl, by decide, by decide +kernel, by rw [e2, e1], rfl⟩, fun u hu => hu⟩))
      (ev_addP (M1 := MdS st g c (n + 5)) (Pi := fun i => i = 1) (Pj := fun j => 0 ≤ j ∧ j < many) ev_int (ev_callS (M1 := MdS st g c (n + 5)) D1 (hr.mono (by decide)) (ea_adr 0 rfl (ea_cons (R := rInt) (x := many) (ev_var 2) ea_nil)) (fun as ⟨r, e1, e2⟩ => ⟨_, ⟨st, g, c, n + 5, many, by omega, rfl, rfl, by omega, by rw [e2, e1], rfl⟩, fun u hu => hu⟩)) (fun i j h1 h2 => by omega)) (fun i h => by omega))) (fun l ⟨xs, i, h1, h2, h3⟩ => by
        rw [h3, List.length_take]; have := h1.length_eq; have e : lows.length = 4 := rfl; omega)).imp fun ys ⟨l, ⟨xs, i, h1, h2, h3⟩, hp⟩ => by
      have hl := h1.length_eq
      have e4 : lows.length = 4 := rfl
      have hl2 := hp.length_eq
      rw [h3, List.length_take] at hl2
      refine ⟨hp.nodup_iff.mpr (by rw [h3]; exact List.Nodup.sublist (List.take_sublist _ _) (h1.nodup_iff.mpr (by decide))), fun s hs => h1.mem_iff.mp (List.mem_of_mem_take (by rw [← h3]; exact hp.mem_iff.mp hs)), by omega, by omega⟩) (fun ls ⟨h1, h2, h3, h4⟩ => ?_)
  refine ss_freeze 4 rfl ?_
  refine ss_ret (M1 := MdS st g c (n + 130)) (P := fun q : Int × Rt => q.1 = len ∧ GoodRt q.2) (ev_pairP (M1 := MdS st g c (n + 6)) (P := fun x => x = len) (P2 := GoodRt) (ev_var 3) (ev_dictP (Pl := GoodRt) B.dict rfl (EFt.ev ((ef_lcT (N := MdS st g c (n + 130)) (P := fun xs => xs = ls) (S := rPair rStr rRid) (pb := fun _ => true) (Py := fun x y => y.1 = x ∧ GoodR y.2) (fun i => MdS st g c (n + 6 + 30 * i)) (own := [("letter", 6)]) rfl sc_table.nd (it_list (ev_var 4)) (blkOk_by (by kernel_rfl)) (by decide) rfl (fun _ => rfl) (fun xs e => Le.up (by rw [e]; omega)) (fun i => Le.up (by omega)) (fun _ _ _ _ _ _ => tg_name 6 sc_table.nd) (fun _ _ _ _ _ _ _ _ _ _ => ts_nil)
      (fun s1 H1 C1 cl1 fp1 xs i x ex hx _ => by
        have hi4 : i < 4 := by have := (List.getElem?_eq_some_iff.mp hx).1; rw [ex] at this; omega
        exact ev_pairP (M1 := MdS st g c (n + 6 + 30 * i)) (P := fun y => y = x) (P2 := GoodR) (ev_var 6) (ev_callS (M1 := MdS st g c (n + 6 + 30 * i)) D4 hr (ea_adr 0 rfl (ea_cons (R := rInt) (x := len) (ev_var 3) ea_nil)) (fun as ⟨r, e1, e2⟩ => ⟨_, ⟨st, g, c, n + 6 + 30 * i, len, by omega, rfl, rfl, by omega, by rw [e2, e1], rfl⟩, fun u hu => hu⟩)))).imp fun ys ⟨xs, ex, pr⟩ => by
      rw [filter_yes, ex] at pr
      obtain ⟨a, b⟩ := paired_keys pr
      exact ⟨fun z => by rw [z] at a; rw [← a] at h3; simp at h3, by rw [a]; exact h1, fun s hs => h2 s (by rw [← a]; exact hs), b⟩)) (fun l gl => gl.nd))) (fun q ⟨e, hq⟩ => ⟨q, ⟨by omega, by omega, by omega, hq⟩, rfl⟩)
end
end My

namespace My
open PySem L2 RT
/-! ### the plain law -/
theorem emod_facts (m : Int) {L : Int} (h : 0 < L) : 0 ≤ m % L ∧ m % L < L ∧ m = m % L + L * (m / L) := ⟨Int.emod_nonneg _ (by omega), Int.emod_lt_of_pos _ h, by have := Int.mul_ediv_add_emod m L; omega⟩
theorem getD_at {l : List Int} {i : Int} (h0 : 0 ≤ i) (h1 : i < l.length) : l[i.toNat]? = some (l.getD i.toNat 0) := by
  have : i.toNat < l.length := by omega
  rw [List.getD_eq_getElem?_getD, List.getElem?_eq_getElem this]; rfl
theorem lead_ge {l : List Int} (g : Good l) (m : Int) : m ≤ lLead l m ∧ lLead l m ≤ m + 1000 := by
  obtain ⟨h0, h1, _⟩ := emod_facts m (L := l.length) (by have := g.pos; omega)
  have := g.at_ _ _ (getD_at h0 h1)
  unfold lLead
  omega
/-- b is the greatest moment that leads to n or sooner -/
def Gr (l : List Int) (n b : Int) : Prop := lLead l b ≤ n ∧ ∀ m, lLead l m ≤ n → m ≤ b
theorem Gr.uniq {l : List Int} {n b b' : Int} (h : Gr l n b) (h' : Gr l n b') : b = b' := by
  have := h.2 b' h'.1
  have := h'.2 b h.1
  omega
theorem lead_at {l : List Int} (g : Good l) {i : Nat} (hi : i < l.length) (k : Int) : lLead l ((i : Int) + l.length * k) = l.getD i 0 + l.length * k := by
  have hL : (0 : Int) < l.length := by omega
  have e : ((i : Int) + l.length * k) % l.length = i := by
    rw [Int.add_mul_emod_self_left]
    exact Int.emod_eq_of_lt (by omega) (by omega)
  unfold lLead
  rw [e]
  simp
  omega
theorem ledBack_gr {l : List Int} (g : Good l) (n : Int) : Gr l n (ledBack l n) := by
  have hL : (0 : Int) < l.length := by have := g.pos; omega
  have hne : ((upto 0 l.length).zip l).map (fun p => p.1 + (l.length : Int) * ((n - p.2) / l.length)) ≠ [] := fun h => by
    have h2 := congrArg List.length h
    have hp := g.pos
    rw [List.length_map, List.length_zip, upto_len, List.length_nil] at h2
    omega
  refine ⟨?_, fun m hm => ?_⟩
  · obtain ⟨q, hq, e⟩ := List.mem_map.mp (maxL_mem hne)
    obtain ⟨i, hi⟩ := List.getElem?_of_mem hq
    rw [List.getElem?_zip_eq_some] at hi
    have hlt : i < l.length := (List.getElem?_eq_some_iff.mp hi.2).1
    rw [upto_at hlt] at hi
    have h1 : q.1 = (i : Int) := by have := Option.some.inj hi.1; omega
    have h2 : l.getD i 0 = q.2 := by rw [List.getD_eq_getElem?_getD, hi.2]; rfl
    unfold ledBack
    rw [← e, h1, lead_at g hlt, h2]
    have := Int.mul_ediv_self_le (x := n - q.2) (k := (l.length : Int)) (by omega)
    omega
  · obtain ⟨h0, h1, h2⟩ := emod_facts m hL
    have hi : (m % (l.length : Int)).toNat < l.length := by omega
    have hc : ((m % (l.length : Int)).toNat : Int) = m % l.length := by omega
    have hm2 : l.getD (m % (l.length : Int)).toNat 0 + l.length * (m / l.length) ≤ n := by
      have := lead_at g hi (m / l.length)
      rw [hc, ← h2] at this
      omega
    have hk : m / l.length ≤ (n - l.getD (m % (l.length : Int)).toNat 0) / l.length := by
      rw [Int.le_ediv_iff_mul_le hL, Int.mul_comm]
      omega
    have hmem : (m % (l.length : Int)) + l.length * ((n - l.getD (m % (l.length : Int)).toNat 0) / l.length) ∈ ((upto 0 l.length).zip l).map (fun p => p.1 + (l.length : Int) * ((n - p.2) / l.length)) := by
      refine List.mem_map.mpr ⟨(m % (l.length : Int), l.getD (m % (l.length : Int)).toNat 0), List.mem_of_getElem? (i := (m % (l.length : Int)).toNat) ?_, rfl⟩
      rw [List.getElem?_zip_eq_some]
      exact ⟨by rw [upto_at hi]; simp; omega, getD_at h0 h1⟩
    have := maxL_ge hmem
    have h3 := Int.mul_le_mul_of_nonneg_left hk (show (0 : Int) ≤ l.length by omega)
    unfold ledBack
    omega
end My

namespace My
open PySem L2 RT
theorem back_fold (l : List Int) (n b : Int) (gr : Gr l n b) : ∀ (xs : List Int) (h : Int), b ≤ h → h ≤ b + xs.length → xs.foldl (fun h _ => if n < lLead l h then h - 1 else h) h = b
  | [], h, h1, h2 => by simp at h2 ⊢; omega
  | x :: xs, h, h1, h2 => by
    rw [List.foldl_cons]
    rw [List.length_cons] at h2
    by_cases c : n < lLead l h
    · rw [if_pos c]
      have : h ≠ b := fun e => by have := gr.1; rw [← e] at this; omega
      exact back_fold l n b gr xs (h - 1) (by omega) (by omega)
    · rw [if_neg c]
      have := gr.2 h (by omega)
      exact back_fold l n b gr xs h h1 (by omega)
theorem lBack_gr {l : List Int} (g : Good l) (n : Int) : lBack l n = ledBack l n := by
  have gr := ledBack_gr g n
  have hb : ledBack l n ≤ n := by have := (lead_ge g (ledBack l n)).1; have := gr.1; omega
  have hs := g.steps
  have hL : (0 : Int) < l.length := by have := g.pos; omega
  refine back_fold l n _ gr _ n hb ?_
  rw [upto_len]
  have hD : lLead l (n - (lSteps l - l.length - 1)) ≤ n := by
    obtain ⟨h0, h1, h2⟩ := emod_facts (n - (lSteps l - l.length - 1)) hL
    have hi : ((n - (lSteps l - l.length - 1)) % (l.length : Int)).toNat < l.length := by omega
    have hmem : l.getD ((n - (lSteps l - l.length - 1)) % (l.length : Int)).toNat 0 - (n - (lSteps l - l.length - 1)) % (l.length : Int) ∈ ((upto 0 l.length).zip l).map (fun p => p.2 - p.1) := by
      refine List.mem_map.mpr ⟨((n - (lSteps l - l.length - 1)) % (l.length : Int), l.getD ((n - (lSteps l - l.length - 1)) % (l.length : Int)).toNat 0), List.mem_of_getElem? (i := ((n - (lSteps l - l.length - 1)) % (l.length : Int)).toNat) ?_, rfl⟩
      rw [List.getElem?_zip_eq_some]
      exact ⟨by rw [upto_at hi]; simp; omega, getD_at h0 h1⟩
    have hge := maxL_ge hmem
    have e : lSteps l - l.length - 1 = maxL (((upto 0 l.length).zip l).map fun p => p.2 - p.1) := by unfold lSteps; omega
    unfold lLead
    omega
  have := gr.2 _ hD
  omega
/-- a step back is short -/
theorem back_bd {l : List Int} (g : Good l) (n : Int) : ledBack l n ≤ n ∧ n - 1000 ≤ ledBack l n := by
  have gr := ledBack_gr g n
  have h1 := (lead_ge g (ledBack l n)).1
  have h2 := gr.1
  have h3 := gr.2 (n - 1000) (by have := (lead_ge g (n - 1000)).2; omega)
  omega
theorem back_add {l : List Int} (g : Good l) (n k : Int) : ledBack l (n + l.length * k) = ledBack l n + l.length * k := by
  have gr := ledBack_gr g n
  have hL : (0 : Int) < l.length := by have := g.pos; omega
  have la : ∀ m, lLead l (m + l.length * k) = lLead l m + l.length * k := fun m => by
    unfold lLead
    rw [Int.add_mul_emod_self_left]
    omega
  refine (ledBack_gr g _).uniq ⟨by rw [la]; have := gr.1; omega, fun m hm => ?_⟩
  have := la (m - l.length * k)
  rw [Int.sub_add_cancel] at this
  have := gr.2 (m - l.length * k) (by omega)
  omega
theorem led_eq {t : Tb} {len : Nat} (gt : GoodT t len) : ∀ (ss : List Str) (n : Int), (∀ s ∈ ss, (t.lookup (Txt.lower s)).isSome = true) → led t ss n = heard t ss n
  | [], n, _ => rfl
  | s :: ss, n, h => by
    obtain ⟨l, el⟩ := Option.isSome_iff_exists.mp (h s List.mem_cons_self)
    have := led_eq gt ss (ledBack l n) fun q hq => h q (List.mem_cons_of_mem _ hq)
    unfold led heard at *
    rw [List.foldl_cons, List.foldl_cons, el]
    show List.foldl _ (ledBack l n) ss = List.foldl _ (lBack l n) ss
    rw [lBack_gr (gt.good _ l el).1]
    exact this
end My

namespace My
open PySem L2 RT
theorem Rel.all {t : Tb} {z : Str} (r : Rel t z) : ∀ s ∈ signs z, (t.lookup (Txt.lower s)).isSome = true := fun s hs => (r.up s hs).2
theorem ages_eq {t : Tb} {len : Nat} (gt : GoodT t len) {z : Str} (r : Rel t z) : agesBy t len z = lAges t len z := by
  unfold agesBy lAges
  refine List.map_congr_left fun n _ => ?_
  rw [led_eq gt _ _ r.all]
theorem least_eq {t : Tb} {len : Nat} (gt : GoodT t len) {zs : List Str} (r : ∀ z ∈ zs, Rel t z) : leastAges t len zs = lLeast t len zs := by
  unfold leastAges lLeast
  have e : zs.map (agesBy t len) = zs.map (lAges t len) := List.map_congr_left fun z hz => ages_eq gt (r z hz)
  rw [e]
theorem led_bd {t : Tb} {len : Nat} (gt : GoodT t len) : ∀ (ss : List Str) (n : Int), (∀ s ∈ ss, (t.lookup (Txt.lower s)).isSome = true) → led t ss n ≤ n ∧ n - 1000 * ss.length ≤ led t ss n
  | [], n, _ => by simp [led]
  | s :: ss, n, h => by
    obtain ⟨l, el⟩ := Option.isSome_iff_exists.mp (h s List.mem_cons_self)
    have h1 := led_bd gt ss (ledBack l n) fun q hq => h q (List.mem_cons_of_mem _ hq)
    have h2 := back_bd (gt.good _ l el).1 n
    unfold led at *
    rw [List.foldl_cons, el]
    show List.foldl _ (ledBack l n) ss ≤ n ∧ _ ≤ List.foldl _ (ledBack l n) ss
    rw [List.length_cons]
    omega
theorem led_add {t : Tb} {len : Nat} (gt : GoodT t len) (k : Int) : ∀ (ss : List Str) (n : Int), (∀ s ∈ ss, (t.lookup (Txt.lower s)).isSome = true) → led t ss (n + len * k) = led t ss n + len * k
  | [], n, _ => rfl
  | s :: ss, n, h => by
    obtain ⟨l, el⟩ := Option.isSome_iff_exists.mp (h s List.mem_cons_self)
    obtain ⟨gl, hl⟩ := gt.good _ l el
    have h1 := led_add gt k ss (ledBack l n) fun q hq => h q (List.mem_cons_of_mem _ hq)
    have h2 := back_add gl n k
    rw [hl] at h2
    unfold led at *
    rw [List.foldl_cons, List.foldl_cons, el]
    show List.foldl _ (ledBack l (n + len * k)) ss = List.foldl _ (ledBack l n) ss + _
    rw [h2]
    exact h1
theorem led_cons {t : Tb} {s : Str} {ss : List Str} {n : Int} : led t (s :: ss) n = led t ss (led t [s] n) := rfl
theorem parts_sum (t : Tb) : ∀ (ss : List Str) (n : Int), (partsOf t ss n).sum = n - led t ss n
  | [], n => by simp [partsOf, led]
  | s :: ss, n => by
    have := led_cons (t := t) (s := s) (ss := ss) (n := n)
    rw [partsOf, List.sum_cons, parts_sum t ss]
    omega
theorem partsOf_len (t : Tb) : ∀ (ss : List Str) (n : Int), (partsOf t ss n).length = ss.length
  | [], _ => rfl
  | s :: ss, n => by rw [partsOf, List.length_cons, partsOf_len t ss, List.length_cons]
/-- the table that the package makes looks up the same -/
theorem tab_look {ds : Tb} {len : Nat} (g : GoodT ds len) (s : Str) : (tabOf ds).lookup s = ds.lookup s := by
  have q : ∀ (ks : List Str), ((ks.filter fun s => (ds.lookup s).isSome).map fun s => (s, (ds.lookup s).getD [])).lookup s = if s ∈ ks then ds.lookup s else none := by
    intro ks
    induction ks with
    | nil => simp
    | cons k ks ih =>
      by_cases hk : (ds.lookup k).isSome = true
      · rw [List.filter_cons_of_pos (p := fun s => (ds.lookup s).isSome) hk, List.map_cons, List.lookup_cons]
        by_cases e : s = k
        · subst e
          obtain ⟨x, ex⟩ := Option.isSome_iff_exists.mp hk
          rw [beq_self_eq_true]
          simp [ex]
        · rw [show (s == k) = false by simpa using e]
          show List.lookup s _ = _
          rw [ih]
          simp [e]
      · rw [List.filter_cons_of_neg (p := fun s => (ds.lookup s).isSome) hk, ih]
        by_cases e : s = k
        · subst e
          have : ds.lookup s = none := by
            cases q : ds.lookup s with
            | none => rfl
            | some x => exact absurd (by rw [q]; rfl) hk
          simp [this]
        · simp [e]
  unfold tabOf
  rw [q]
  by_cases h : s ∈ lows
  · rw [if_pos h]
  · rw [if_neg h]
    cases e : ds.lookup s with
    | none => rfl
    | some x => exact absurd (g.low s (mem_keys e)) h
theorem tab_good {ds : Tb} {len : Nat} (g : GoodT ds len) : GoodT (tabOf ds) len := by
  refine ⟨fun h => someOf_ne g (by unfold tabOf at h; unfold someOf; have := congrArg (List.map (·.2)) h; simpa using this), ?_, fun s hs => ?_, fun s l hl => ?_⟩
  · unfold tabOf
    rw [List.map_map]
    have : ((fun (x : Str × List Int) => x.1) ∘ fun s => (s, (ds.lookup s).getD [])) = fun s => s := rfl
    rw [this, List.map_id']
    exact List.Nodup.sublist List.filter_sublist (by decide)
  · unfold tabOf at hs
    rw [List.map_map] at hs
    obtain ⟨x, hx, rfl⟩ := List.mem_map.mp hs
    exact (List.mem_filter.mp hx).1
  · rw [tab_look g] at hl
    exact g.good s l hl
theorem tab_rel {ds : Tb} {len : Nat} (g : GoodT ds len) {z : Str} (r : Rel ds z) : Rel (tabOf ds) z := ⟨fun s hs => by rw [tab_look g]; exact r.up s hs, r.pos, r.len⟩
theorem tab_led {ds : Tb} {len : Nat} (g : GoodT ds len) (ss : List Str) (n : Int) : led (tabOf ds) ss n = led ds ss n := by
  unfold led
  congr 1
  funext n s
  rw [tab_look g]
end My

namespace My
open PySem L2 RT
/-! ### what is told of tuples of small numbers -/
theorem show_ints : ∀ ns : List Int, (∀ n ∈ ns, n.natAbs < 2 ^ 100) → PyData.showableAll (ns.map PyData.int) = true
  | [], _ => rfl
  | n :: ns, h => by
    show (PyData.showable (.int n) && PyData.showableAll (ns.map PyData.int)) = true
    rw [show_ints ns fun m hm => h m (List.mem_cons_of_mem _ hm)]
    have h1 := h n List.mem_cons_self
    have : n.natAbs.log2 < 1920 := by
      by_cases e : n.natAbs = 0
      · rw [e]; decide
      · have := (Nat.log2_lt e).mpr h1; omega
    show (decide (n.natAbs.log2 < 1920) && true) = true
    rw [decide_eq_true this]; rfl
theorem nodict_ints : ∀ ns : List Int, PyData.hasDictAll (ns.map PyData.int) = false
  | [] => rfl
  | n :: ns => by
    show (PyData.hasDict (.int n) || PyData.hasDictAll (ns.map PyData.int)) = false
    rw [nodict_ints ns]; rfl
theorem wt_ints : ∀ ns : List Int, wtAll (ns.map PyData.int) = 2002 * ns.length
  | [] => rfl
  | n :: ns => by
    show wt (.int n) + 2 + wtAll (ns.map PyData.int) = _
    rw [wt_ints ns, List.length_cons]
    show 2000 + 2 + 2002 * ns.length = _
    omega
theorem told_tup {ns : List Int} (h : ∀ n ∈ ns, n.natAbs < 2 ^ 100) (hl : ns.length ≤ 1000) : Told (.tuple (ns.map PyData.int)) := by
  have hs : PyData.showable (.tuple (ns.map PyData.int)) = true := show_ints ns h
  have hw : wt (.tuple (ns.map PyData.int)) = 2002 * ns.length + 10 := by show wtAll _ + 10 = _; rw [wt_ints]
  refine ⟨lay_ints ns, hs, nodict_ints ns, ?_, ?_⟩
  · show PyData.depthAll (ns.map PyData.int) + 1 ≤ 60
    rw [depth0_ints]; decide
  · have := wt_le (.tuple (ns.map PyData.int)) hs (by rw [hw]; omega)
    rw [hw] at this
    rw [sizeLine_eq]
    omega
theorem told_int {n : Int} (h : n.natAbs < 2 ^ 100) : Told (.int n) := by
  have h1 : n.natAbs.log2 < 1920 := by
    by_cases e : n.natAbs = 0
    · rw [e]; decide
    · have := (Nat.log2_lt e).mpr h; omega
  have hs : PyData.showable (.int n) = true := decide_eq_true h1
  refine ⟨rfl, hs, rfl, (by show (0 : Nat) ≤ 60; decide), ?_⟩
  have := wt_le (.int n) hs (by show 2000 < 2 ^ 40; decide)
  have e : wt (.int n) = 2000 := rfl
  rw [e] at this
  rw [sizeLine_eq]
  omega
end My

namespace My
open PySem L2 RT
theorem led_take {t : Tb} {ss : List Str} {i : Nat} {s : Str} {n : Int} (h : ss[i]? = some s) : led t (ss.take (i + 1)) n = led t [s] (led t (ss.take i) n) := by
  unfold led
  rw [List.take_add_one, h, List.foldl_append]; rfl
theorem parts_at {t : Tb} : ∀ {ss : List Str} {n : Int} {i : Nat} {p : Int}, (partsOf t ss n)[i]? = some p → ∃ s, ss[i]? = some s ∧ p = led t (ss.take i) n - led t [s] (led t (ss.take i) n)
  | [], _, _, _, h => by simp [partsOf] at h
  | s :: ss, n, 0, p, h => by
    rw [partsOf] at h
    simp at h
    exact ⟨s, rfl, h.symm⟩
  | s :: ss, n, i + 1, p, h => by
    rw [partsOf] at h
    obtain ⟨s', h1, h2⟩ := parts_at (i := i) (by simpa using h)
    exact ⟨s', by simpa using h1, h2⟩
theorem heard_zip (t : Tb) : ∀ (ss : List Str) (ps : List Int) (i : Nat) (n : Int), ps.length = ss.length → ((ss.zip ps).take i).foldl (fun h (q : Str × Int) => lBack ((t.lookup (Txt.lower q.1)).getD []) h) n = heard t (ss.take i) n
  | [], ps, i, n, _ => by simp [heard]
  | s :: ss, [], i, n, h => by simp at h
  | s :: ss, p :: ps, 0, n, h => by simp [heard]
  | s :: ss, p :: ps, i + 1, n, h => by
    rw [List.zip_cons_cons, List.take_succ_cons, List.foldl_cons, List.take_succ_cons]
    exact heard_zip t ss ps i _ (by simpa using h)
end My

namespace My
open PySem L2 RT
/-- two or three keywords, written from the last parameter to the first -/
def rv {α : Type} (us ws : List α) : List α := if us.isEmpty then ws.reverse else []
theorem vals_rev {vs : List V} {us : List Value} (h : Vals vs us) : Vals vs.reverse us.reverse := by
  induction h with
  | nil => exact .nil
  | cons h t ih => simpa using Paired.snoc ih h
theorem rv_rel {vs : List V} {us : List Value} {zs : List V} {ws : List Value} (h : Vals vs us) (h2 : Vals zs ws) : Vals (rv vs zs) (rv us ws) := by
  unfold rv
  cases h with
  | nil => simpa using vals_rev h2
  | cons _ _ => exact .nil
theorem ord2 {G : Hp} {vs : List V} {a b : Ent} (h : ArgsOk G vs [a, b]) : ArgsOk G (rv [] vs) [b, a] := by
  match vs, h with
  | [v, w], h => exact argsOk_cons (h.2 1 w b rfl rfl) (argsOk_cons (h.2 0 v a rfl rfl) argsOk_nil)
  | [], h => exact nomatch h.1
  | [_], h => exact absurd h.1 (by simp)
  | _ :: _ :: _ :: _, h => exact absurd h.1 (by simp)
theorem ord3 {G : Hp} {vs : List V} {a b c : Ent} (h : ArgsOk G vs [a, b, c]) : ArgsOk G (rv [] vs) [c, b, a] := by
  match vs, h with
  | [v, w, u], h => exact argsOk_cons (h.2 2 u c rfl rfl) (argsOk_cons (h.2 1 w b rfl rfl) (argsOk_cons (h.2 0 v a rfl rfl) argsOk_nil))
  | [], h => exact nomatch h.1
  | [_], h => exact absurd h.1 (by simp)
  | [_, _], h => exact absurd h.1 (by simp)
  | _ :: _ :: _ :: _ :: _, h => exact absurd h.1 (by simp)
end My

namespace My
open PySem L2 RT
section
variable {X : Cx} {M : Md} {Γ : List Ent} {e a b : Expr} {α : Type} {R : Rp α} {pos p apos cpos np : Pos} {ns : List Int} {n : Int} {xs : List α}
/-- l.index(n) of a list -/
theorem ev_idxL (ha : EV X M a Γ (rLst rInt) ns) (he : EV X M e Γ rInt n) (hn : n ∈ ns) (hbase : attributeBase a "index" X.env (eval a X.env) = eval a X.env := by rfl) (hb : BmOk X e [] apos pos := by exact ⟨rfl, rfl, rfl, rfl⟩) : EV X M (.Call (.Attribute a "index" apos) [e] [] pos) Γ rInt (ns.idxOf n : Nat) := fun H0 G H σ t Q k =>
  of_pe (pe_bm PySem.F.plainAttrs_list PySem.F.slot_list_index PySem.F.type_list_index mt_index pe_of (pa_cons pe_of pa_nil hb.st) hbase hb.few hb.line hb.st hb.pl) (ha H0 G H σ t _ fun v x G1 H1 e1 s1 r1 => by
    subst e1
    obtain ⟨q, us, rfl, h2, h3⟩ := id r1
    refine ⟨.inl ⟨rfl, _, (.inl (rd_up s1.gh h2))⟩, he H0 G1 H1 σ (t.step s1) _ fun w y G2 H2 e2 s2 r2 => ?_⟩
    subst e2
    have e3 := paired_ints h3
    have hlt : x.idxOf y < x.length := List.idxOf_lt_length_of_mem hn
    refine ⟨q, us, .int y, x.idxOf y, .int y, rfl, by rw [show w = V.int y from r2], .inl (rd_up s2.gh (same_rd s2.g h2)), rfl, ?_, ?_, ?_, ?_, k _ _ G2 H2 rfl (s1.trans s2) rfl⟩
    · rw [e3]; simp [List.all_map]; intro _ _; rfl
    · rw [e3, List.getElem?_map, List.getElem?_eq_getElem hlt, List.getElem_idxOf hlt]; rfl
    · simp [eqV]
    · intro m z' hm hz
      rw [e3, List.getElem?_map] at hz
      have hml : m < x.length := by omega
      rw [List.getElem?_eq_getElem hml] at hz
      cases hz
      have := List.not_of_lt_findIdx (p := (· == y)) (xs := x) (i := m) hm
      simp [eqV] at this ⊢
      exact this)
variable {st g c : Addr} {m : Nat} {room : Int} {f : Addr} {fd : FuncData}
/-- _law_draw(state, e) -/
theorem ev_draw (i : Nat) (hi : Γ[i]? = some (.adr st)) (D : DefS X "_law_draw" 2 f fd ["state", "room"] cDraw) (hr : Room 2 X.A) (hm : m ≤ 10 ^ 13) (he : EV X (MdS st g c m) e Γ rInt room) (h : 0 < room ∧ room < 1073741824) {nm : Str} (hN : X.N[i]? = some nm := by rfl) (hv : Vis X.env.scope nm := by first | exact Or.inl rfl | exact Or.inr (Or.inl rfl) | exact Or.inr (Or.inr rfl)) (hd : (nm == ("__debug__" : Str)) = false := by decide)
    (hcd : (nm == ("__classdict__" : Str)) = false := by decide) (hs : starEach [.Name nm np, e] X.env = (false, eval (.Name nm np) X.env) :: starEach [e] X.env := by rfl) (hs2 : starEach [e] X.env = (false, eval e X.env) :: starEach [] X.env := by rfl) (hg : Gl X "_law_draw" := by rfl) (hpl : (backTo pos (starEach [e] X.env)).any (·.1) = false := by rfl) :
    EVt X (MdS st g c m) (MdS st g c (m + 1)) (.Call (.Name "_law_draw" p) [.Name nm np, e] [] pos) Γ rInt (fun y => 0 ≤ y ∧ y < room) :=
  ev_callS (M1 := MdS st g c m) D hr (ea_adr i hi (ea_cons he ea_nil hs2) hN hv hd hcd hs) (fun as ⟨r, e1, e2⟩ => ⟨_, ⟨st, g, c, m, room, hm, rfl, rfl, h, by rw [e2, e1], rfl⟩, fun u hu => hu⟩) rfl rfl hg (by decide) hs hpl
/-- _law_pick(state, e) -/
theorem ev_pick (i : Nat) (hi : Γ[i]? = some (.adr st)) (D : DefS X "_law_pick" 3 f fd ["state", "some"] cPick) (hr : Room 3 X.A) (hm : m ≤ 10 ^ 13) (he : EV X (MdS st g c m) e Γ (rLst R) xs) (h : 0 < xs.length ∧ xs.length ≤ 1000) {nm : Str} (hN : X.N[i]? = some nm := by rfl) (hv : Vis X.env.scope nm := by first | exact Or.inl rfl | exact Or.inr (Or.inl rfl) | exact Or.inr (Or.inr rfl)) (hd : (nm == ("__debug__" : Str)) = false := by decide)
    (hcd : (nm == ("__classdict__" : Str)) = false := by decide) (hs : starEach [.Name nm np, e] X.env = (false, eval (.Name nm np) X.env) :: starEach [e] X.env := by rfl) (hs2 : starEach [e] X.env = (false, eval e X.env) :: starEach [] X.env := by rfl) (hg : Gl X "_law_pick" := by rfl) (hpl : (backTo pos (starEach [e] X.env)).any (·.1) = false := by rfl) :
    EVt X (MdS st g c m) (MdS st g c (m + 1)) (.Call (.Name "_law_pick" p) [.Name nm np, e] [] pos) Γ R (fun y => y ∈ xs) :=
  ev_callS (M1 := MdS st g c m) D hr (ea_adr i hi (ea_cons he ea_nil hs2) hN hv hd hcd hs) (fun as ⟨r, e1, e2⟩ => ⟨_, ⟨α, R, xs, st, g, c, m, hm, rfl, rfl, h, by rw [e2, e1], rfl⟩, fun u hu => hu⟩) rfl rfl hg (by decide) hs hpl
end
/-! ### plain -/
section
variable {ds : Tb} {len : Nat} {z : Str} {zs : List Str}
theorem ages_tab (gt : GoodT ds len) (r : Rel ds z) : agesBy (tabOf ds) len z = lAges ds len z := by
  have h : agesBy (tabOf ds) len z = agesBy ds len z := by
    unfold agesBy
    exact List.map_congr_left fun n _ => by rw [tab_led gt]
  rw [h, ages_eq gt r]
theorem least_tab (gt : GoodT ds len) (r : ∀ z ∈ zs, Rel ds z) : leastAges (tabOf ds) len zs = lLeast ds len zs := by
  unfold leastAges lLeast
  have e : zs.map (agesBy (tabOf ds) len) = zs.map (lAges ds len) := List.map_congr_left fun z hz => ages_tab gt (r z hz)
  rw [e]
theorem lAges_at (gt : GoodT ds len) (r : Rel ds z) {n : Nat} (h : n < len) : (lAges ds len z)[n]? = some ((n : Int) - led ds (signs z) n) := by
  rw [← ages_eq gt r]
  unfold agesBy
  rw [List.getElem?_map, upto_at h, Int.zero_add]; rfl
theorem lAges_bd (gt : GoodT ds len) (r : Rel ds z) : ∀ a ∈ lAges ds len z, 0 ≤ a ∧ a ≤ 12000 := by
  rw [← ages_eq gt r]
  intro a ha
  obtain ⟨n, _, rfl⟩ := List.mem_map.mp ha
  have := led_bd gt (signs z) n r.all
  have h2 := r.len
  rw [← len_signs] at h2
  omega
theorem lLeast_bd (gt : GoodT ds len) (r : Rels ds zs) : ∀ a ∈ lLeast ds len zs, 0 ≤ a ∧ a ≤ 12000 := by
  intro a ha
  obtain ⟨n, hn, rfl⟩ := List.mem_map.mp ha
  have hne : (zs.map (lAges ds len)).map (fun row => row.getD n.toNat 0) ≠ [] := fun e => by
    have h2 := congrArg List.length e
    have := r.pos
    simp at h2
    rw [h2] at this
    exact absurd this (by decide)
  obtain ⟨row, hrow, e⟩ := List.mem_map.mp (minL_mem hne)
  obtain ⟨z, hz, rfl⟩ := List.mem_map.mp hrow
  rw [← e]
  have hb := mem_upto hn
  have hl : (lAges ds len z).length = len := len_lAges
  have hlt : n.toNat < (lAges ds len z).length := by omega
  refine lAges_bd gt (r.rel z hz) _ ?_
  rw [List.getD_eq_getElem?_getD, List.getElem?_eq_getElem hlt]
  exact List.getElem_mem hlt
end
end My

namespace My
open PySem L2 RT
/-! ### draws of drawn things -/
section
variable {X : Cx} {Γ : List Ent} {e a b : Expr} {α : Type} {R : Rp α} {pos p np : Pos} {st g c f : Addr} {fd : FuncData} {m m1 : Nat}
theorem ev_drawP {Pr : Int → Prop} (i : Nat) (hi : Γ[i]? = some (.adr st)) (D : DefS X "_law_draw" 2 f fd ["state", "room"] cDraw) (hr : Room 2 X.A) (hm : m1 ≤ 10 ^ 13) (he : EVt X (MdS st g c m) (MdS st g c m1) e Γ rInt Pr) (h : ∀ r, Pr r → 0 < r ∧ r < 1073741824) {nm : Str} (hN : X.N[i]? = some nm := by rfl) (hv : Vis X.env.scope nm := by first | exact Or.inl rfl | exact Or.inr (Or.inl rfl) | exact Or.inr (Or.inr rfl)) (hd : (nm == ("__debug__" : Str)) = false := by decide)
    (hcd : (nm == ("__classdict__" : Str)) = false := by decide) (hs : starEach [.Name nm np, e] X.env = (false, eval (.Name nm np) X.env) :: starEach [e] X.env := by rfl) (hs2 : starEach [e] X.env = (false, eval e X.env) :: starEach [] X.env := by rfl) (hg : Gl X "_law_draw" := by rfl) (hpl : (backTo pos (starEach [e] X.env)).any (·.1) = false := by rfl) :
    EVt X (MdS st g c m) (MdS st g c (m1 + 1)) (.Call (.Name "_law_draw" p) [.Name nm np, e] [] pos) Γ rInt (fun y => ∃ r, Pr r ∧ 0 ≤ y ∧ y < r) :=
  ev_callS (M1 := MdS st g c m1) D hr (ea_adr i hi (ea_consP (M1 := MdS st g c m1) he ea_nil hs2 rfl rfl) hN hv hd hcd hs) (fun as ⟨r, ⟨x, r2, px, e3, e4⟩, e2⟩ => ⟨_, ⟨st, g, c, m1, x, hm, rfl, rfl, h x px, by rw [e2, e4, e3], rfl⟩, fun u ⟨y, hy, hu⟩ => ⟨y, ⟨x, px, hy⟩, hu⟩⟩) rfl rfl hg (by decide) hs hpl
theorem ev_pickP {Pl : List α → Prop} (i : Nat) (hi : Γ[i]? = some (.adr st)) (D : DefS X "_law_pick" 3 f fd ["state", "some"] cPick) (hr : Room 3 X.A) (hm : m1 ≤ 10 ^ 13) (he : EVt X (MdS st g c m) (MdS st g c m1) e Γ (rLst R) Pl) (h : ∀ xs, Pl xs → 0 < xs.length ∧ xs.length ≤ 1000) {nm : Str} (hN : X.N[i]? = some nm := by rfl) (hv : Vis X.env.scope nm := by first | exact Or.inl rfl | exact Or.inr (Or.inl rfl) | exact Or.inr (Or.inr rfl)) (hd : (nm == ("__debug__" : Str)) = false := by decide)
    (hcd : (nm == ("__classdict__" : Str)) = false := by decide) (hs : starEach [.Name nm np, e] X.env = (false, eval (.Name nm np) X.env) :: starEach [e] X.env := by rfl) (hs2 : starEach [e] X.env = (false, eval e X.env) :: starEach [] X.env := by rfl) (hg : Gl X "_law_pick" := by rfl) (hpl : (backTo pos (starEach [e] X.env)).any (·.1) = false := by rfl) :
    EVt X (MdS st g c m) (MdS st g c (m1 + 1)) (.Call (.Name "_law_pick" p) [.Name nm np, e] [] pos) Γ R (fun y => ∃ xs, Pl xs ∧ y ∈ xs) :=
  ev_callS (M1 := MdS st g c m1) D hr (ea_adr i hi (ea_consP (M1 := MdS st g c m1) he ea_nil hs2 rfl rfl) hN hv hd hcd hs) (fun as ⟨r, ⟨xs, r2, px, e3, e4⟩, e2⟩ => ⟨_, ⟨α, R, xs, st, g, c, m1, hm, rfl, rfl, h xs px, by rw [e2, e4, e3], rfl⟩, fun u ⟨y, hy, hu⟩ => ⟨y, ⟨xs, px, hy⟩, hu⟩⟩) rfl rfl hg (by decide) hs hpl
end
/-! ### the law -/
def cLaw (K : PySem.W.Frag) : Ctr := fun M as res => ∃ ns : List Int, M = Md0 ∧ ns.length ≤ 63 ∧ as = [.val (rScr K) ns] ∧ res = (fun u => u = .val rBool true)
theorem law_sp {K : PySem.W.Frag} {H : Hp} {a : Addr} {ns : List Int} (hl : ns.length ≤ 63) (hS : SqL K H a (ns.map V.int)) (hz : SzOk H) : spC (cLaw K) [.ref a] H (fun v _ => v = .bl true) E0 :=
  ⟨Md0, H, [.val (rScr K) ns], _, ⟨ns, rfl, hl, rfl, rfl⟩, ⟨Same.refl _, hz, trivial, fun a ha => by cases ha⟩, argsOk_cons ⟨a, rfl, hS⟩ argsOk_nil, fun R x v G' H' e s r => by cases e; exact r⟩
theorem ints_bd {l : List Int} (h : ∀ a ∈ l, 0 ≤ a ∧ a ≤ 12000) : ∀ a ∈ l, a.natAbs < 2 ^ 100 := fun a ha => by
  have h1 := h a ha
  have : (12000 : Nat) < 2 ^ 100 := by decide
  omega
theorem idx_lt {l : List Int} {a : Int} (h : a ∈ l) (hl : l.length ≤ 60) : ((l.idxOf a : Nat) : Int).natAbs < 2 ^ 100 := by
  have h1 := List.idxOf_lt_length_of_mem h
  have : (60 : Nat) < 2 ^ 100 := by decide
  omega
theorem told_pair {a b : Int} (ha : a.natAbs < 2 ^ 100) (hb : b.natAbs < 2 ^ 100) : Told (.tuple [.int a, .int b]) := told_tup (ns := [a, b]) (by simp [ha, hb]) (by simp)
theorem told_int_tup {a : Int} {ns : List Int} (ha : a.natAbs < 2 ^ 100) (h : ∀ n ∈ ns, n.natAbs < 2 ^ 100) (hl : ns.length ≤ 1000) : Told (.tuple [.int a, .tuple (ns.map PyData.int)]) := by
  have hs : PyData.showable (.tuple (ns.map PyData.int)) = true := show_ints ns h
  have ha2 : a.natAbs.log2 < 1920 := by
    by_cases e : a.natAbs = 0
    · rw [e]; decide
    · have := (Nat.log2_lt e).mpr ha; omega
  have hsa : PyData.showable (.int a) = true := decide_eq_true ha2
  have hs2 : PyData.showable (.tuple [.int a, .tuple (ns.map PyData.int)]) = true := by
    show (PyData.showable (.int a) && (PyData.showable (.tuple (ns.map PyData.int)) && true)) = true
    rw [hsa, hs]; rfl
  have hw : wt (.tuple [.int a, .tuple (ns.map PyData.int)]) = 2002 * ns.length + 2024 := by
    show (wt (.int a) + 2 + ((wtAll (ns.map PyData.int) + 10) + 2 + 0)) + 10 = _
    rw [wt_ints]
    show (2000 + 2 + ((2002 * ns.length + 10) + 2 + 0)) + 10 = _
    omega
  refine ⟨?_, hs2, ?_, ?_, ?_⟩
  · show (PyData.canLay0 (.int a) && (PyData.canLayAll0 (ns.map PyData.int) && true)) = true
    rw [lay_ints]; rfl
  · show (PyData.hasDict (.int a) || (PyData.hasDictAll (ns.map PyData.int) || false)) = false
    rw [nodict_ints]; rfl
  · show max 0 (max (PyData.depthAll (ns.map PyData.int) + 1) 0) + 1 ≤ 60
    rw [depth0_ints]; decide
  · have := wt_le _ hs2 (by rw [hw]; omega)
    rw [hw] at this
    rw [sizeLine_eq]
    omega
end My

namespace My
open PySem L2 RT
/-! ### rows of steps back and forth -/
def step1 (t : Tb) (s : Str) (n : Int) : Int := if inS s "abcd" = true then ledOn ((t.lookup (Txt.lower s)).getD []) n else ledBack ((t.lookup (Txt.lower s)).getD []) n
def ledG (t : Tb) (ss : List Str) (n : Int) : Int := ss.foldl (fun n s => step1 t s n) n
structure Row (t : Tb) (z : Str) : Prop where
  st : ∀ s ∈ signs z, (s ∈ lows ∨ s ∈ ups) ∧ (t.lookup (Txt.lower s)).isSome
  len : z.length ≤ 60
theorem sgn_facts : ∀ s ∈ lows ++ ups, s.cps.size = 1 ∧ s.length = 1 ∧ inS s "ABCDabcd" = true ∧ Txt.lower s ∈ lows ∧ Txt.lower (Txt.lower s) = Txt.lower s ∧ inS (Txt.lower s) "abcd" = true ∧ Txt.upper (Txt.lower s) ∈ ups := by decide +kernel
theorem Row.sz {t : Tb} {z : Str} (r : Row t z) : z.cps.size ≤ 16777216 := by have := r.len; show z.length ≤ _; omega
theorem Row.fac {t : Tb} {z s : Str} (r : Row t z) (h : s ∈ signs z) : s.cps.size = 1 ∧ s.length = 1 ∧ inS s "ABCDabcd" = true := by
  have := sgn_facts s (List.mem_append.mpr (r.st s h).1)
  exact ⟨this.1, this.2.1, this.2.2.1⟩
theorem Rel.row {t : Tb} {z : Str} (r : Rel t z) : Row t z := ⟨fun s hs => ⟨.inr (r.up s hs).1, (r.up s hs).2⟩, by have := r.len; omega⟩
def cIsRowG : Ctr := fun _ as res => ∃ (t : Tb) (z : Str), Row t z ∧ as = [.val rStr z] ∧ res = (fun u => u = .val rBool true)
def cNeedRowG : Ctr := fun _ as res => ∃ (t : Tb) (z : Str), Row t z ∧ as = [.val rStr z] ∧ res = (fun u => u = .val rNone ())
def cNeedLinksG (CD CT : Addr) : Ctr := fun _ as res => ∃ (t : Tb) (len : Nat) (z : Str), GoodT t len ∧ Row t z ∧ as = [.val (rTable CD CT) t, .val rStr z] ∧ res = (fun u => u = .val rNone ())
def cLedG (CD CT : Addr) : Ctr := fun _ as res => ∃ (t : Tb) (len : Nat) (z : Str) (n : Int), GoodT t len ∧ Row t z ∧ as = [.val (rTable CD CT) t, .val rStr z, .val rInt n] ∧ res = (fun u => u = .val rInt (ledG t (signs z) n))
def cCounter : Ctr := fun _ as res => ∃ s : Str, s ∈ ups ∧ as = [.val rStr s] ∧ res = (fun u => u = .val rStr (Txt.lower s))
def mirS (z : Str) : Str := Txt.join "" ((signs z).reverse.map Txt.lower)
def cMir : Ctr := fun _ as res => ∃ (t : Tb) (z : Str), Rel t z ∧ as = [.val rStr z] ∧ res = (fun u => u = .val rStr (mirS z))
theorem mir_signs {t : Tb} {z : Str} (r : Rel t z) : signs (mirS z) = (signs z).reverse.map Txt.lower := by
  refine signs_join fun s hs => ?_
  obtain ⟨x, hx, rfl⟩ := List.mem_map.mp hs
  exact (low_facts _ (up_facts x (r.up x (List.mem_reverse.mp hx)).1).2.2.1).1
theorem mir_row {t : Tb} {z : Str} (r : Rel t z) : Row t (mirS z) := by
  refine ⟨fun s hs => ?_, ?_⟩
  · rw [mir_signs r] at hs
    obtain ⟨x, hx, rfl⟩ := List.mem_map.mp hs
    have h1 := r.up x (List.mem_reverse.mp hx)
    have h2 := sgn_facts x (List.mem_append.mpr (.inr h1.1))
    exact ⟨.inl h2.2.2.2.1, by rw [h2.2.2.2.2.1]; exact h1.2⟩
  · have h1 := len_signs (z := mirS z)
    rw [mir_signs r, List.length_map, List.length_reverse, len_signs] at h1
    have := r.len
    omega
section
variable {P : Program} {w : World} {K : PySem.W.Frag} {mg : Str → Option Value} {base : Heap} {f f1 f2 f3 f4 CD CT : Addr} {fd fd1 fd2 fd3 fd4 : FuncData} {tk tk2 : Tok}
theorem ok_is_rowG (F : Fun K "is_row" "is_row" (top 30) f fd) (B : Bn mg) (g1 : mg "MOST_STEPS_rows" = some (.int 60 tk)) (g2 : mg "STEPS" = some (.str "ABCDabcd" tk2)) : FnOk P w K mg base CX0 1 f fd ["thing"] (spC cIsRowG) := by
  refine fn_mk F sc_is_row (fun _ _ _ ⟨_, _, _, h, _⟩ => by rw [h]; rfl) fun cdv A outer s H E hr M as res ⟨t, z, r, ha, hres⟩ => ?_
  subst ha hres
  have hl := r.len
  refine ss_retV (ev_and (t1 := true) (ev_isi B.isinstance (ev_var 0) (pe_tyn B.str (by decide +kernel)) (.ty "str") (fun x px => ⟨_, ty_str, kit_ty (by decide +kernel)⟩)) fun _ =>
    ev_and (t1 := true) (ev_is (ev_le (ev_lenS B.len (ev_var 0) (by omega)) (ev_gint g1)) (decide_eq_true (by omega))) fun _ => ev_and1 (ev_is (ev_all B.all rfl (EFt.ev (ef_lc0 (g := fun _ => true) (own := [("step", 1)]) rfl sc_is_row.nd (it_str (ev_var 0) r.sz) (blkOk_by (by kernel_rfl)) (by decide) (fun _ _ _ _ _ _ => tg_name 1 sc_is_row.nd)
    (fun _ _ _ _ _ y hy => by
      obtain ⟨f1, f2, f3⟩ := r.fac hy
      exact ev_is (ev_inS (ev_var 1) (ev_gstr g2) f1) f3)))) (by simp))) rfl
theorem ok_need_linksG (F : Fun K "need_links" "DailyTable.need_links" (inClass (top 43) 6) f fd) (Q : Kls K mg CD CT) : FnOk P w K mg base CX0 1 f fd ["self", "steps"] (spC (cNeedLinksG CD CT)) := by
  refine fn_mk F sc_need_links (fun _ _ _ ⟨_, _, _, _, _, h, _⟩ => by rw [h]; rfl) fun cdv A outer s H E hr M as res ⟨t, n, z, g, r, ha, hres⟩ => ?_
  subst ha hres
  refine ss_for0 PassesOwn.never rfl (it_str (ev_var 1) r.sz) (fun _ => tg_name 2 sc_need_links.nd) [.val (rTable CD CT) t, .val rStr z, .any] ⟨.inr rfl, .inr rfl, .inl rfl, trivial⟩ (fun xs i y exs hz hy => ?_) (ss_nil rfl)
  subst exs
  have hm := List.mem_of_getElem? hy
  obtain ⟨f1, f2, f3⟩ := r.fac hm
  exact ss_ifn (tv_is (tv_cmp1 (ev_dnotin (hr.lt 1) (ev_lower (ev_var 2) (by rw [f2]; decide)) (ev_fld (ev_var 0) Q.t.cl Q.nL rfl))) (by rw [(r.st y hm).2]; rfl)) (ss_nil ⟨.inr rfl, .inr rfl, .inl rfl, trivial⟩)
theorem ok_ledG (F : Fun K "led" "DailyTable.led" (inClass (top 43) 7) f fd) (Q : Kls K mg CD CT) (g1 : mg "LINKS" = some (.str "abcd" tk)) (D1 : DefC P w K mg base "led_on" 1 f1 fd1 ["ends", "number"] cLedOn) (D2 : DefC P w K mg base "led_back" 1 f2 fd2 ["ends", "number"] cLedBack) : FnOk P w K mg base CX0 2 f fd ["self", "row", "number"] (spC (cLedG CD CT)) := by
  refine fn_mk F sc_led (fun _ _ _ ⟨_, _, _, _, _, _, h, _⟩ => by rw [h]; rfl) fun cdv A outer s H E hr M as res ⟨t, n, z, k, g, r, ha, hres⟩ => ?_
  subst ha hres
  refine ss_forF PassesOwn.never rfl (it_str (ev_var 1) r.sz) (fun _ => tg_name 3 sc_led.nd) (fun n s => step1 t s n) k (fun n => [.val (rTable CD CT) t, .val rStr z, .val rInt n, .any, .any]) ⟨.inr rfl, .inr rfl, .inr rfl, .inl rfl, .inl rfl, trivial⟩ (fun i y k' hz hy _ => ?_) (ss_retV (ev_var 2) rfl)
  have hm := List.mem_of_getElem? hy
  obtain ⟨f1, f2, f3⟩ := r.fac hm
  obtain ⟨l, el⟩ := Option.isSome_iff_exists.mp (r.st y hm).2
  obtain ⟨gl, _⟩ := g.good _ l el
  have hl := gl.len
  refine ss_set (x := l) 4 sc_led.nd (ev_fld (x := l) (ev_dget (hr.lt 1) (ev_fld (ev_var 0) Q.t.cl Q.nL rfl) (ev_lower (ev_var 3) (by rw [f2]; decide)) el) Q.d.cl Q.nE rfl) ?_
  refine ss_set (x := if inS y "abcd" = true then ledOn l k' else ledBack l k') 2 sc_led.nd (ev_ife (tv_cmp1 (ev_inS (ev_var 3) (ev_gstr g1) f1)) (fun _ => ev_call D1 (hr.mono (by decide)) (ea_cons (ev_var 4) (ea_cons (ev_var 2) ea_nil)) ⟨l, k', rfl, gl.pos, by omega, rfl⟩) (fun _ => ev_call D2 (hr.mono (by decide)) (ea_cons (ev_var 4) (ea_cons (ev_var 2) ea_nil)) ⟨l, k', rfl, gl.pos, by omega, rfl⟩)) ?_
  exact ss_nil ⟨.inr rfl, .inr rfl, .inr (by unfold step1; rw [el]; rfl), .inl rfl, .inl rfl, trivial⟩
end
end My

namespace My
open PySem L2 RT
/-! ### links that never overtake -/
def Mono (l : List Int) : Prop := ∀ m, lLead l m ≤ lLead l (m + 1)
theorem Mono.le {l : List Int} (h : Mono l) : ∀ (k : Nat) (m : Int), lLead l m ≤ lLead l (m + k)
  | 0, m => by simp
  | k + 1, m => by
    have h1 := h.le k m
    have h2 := h (m + k)
    have e : m + ((k + 1 : Nat) : Int) = m + k + 1 := by omega
    rw [e]
    omega
theorem Mono.le' {l : List Int} (h : Mono l) {m n : Int} (hmn : m ≤ n) : lLead l m ≤ lLead l n := by
  have := h.le (n - m).toNat m
  have e : m + ((n - m).toNat : Int) = n := by omega
  rwa [e] at this
/-- a link leads m to n or sooner exactly if m is not later than where n leads back to -/
theorem galois {l : List Int} (g : Good l) (h : Mono l) (m n : Int) : m ≤ ledBack l n ↔ lLead l m ≤ n := by
  have gr := ledBack_gr g n
  exact ⟨fun hm => Int.le_trans (h.le' hm) gr.1, gr.2 m⟩
theorem ledOn_lead {l : List Int} (g : Good l) (n : Int) : ledOn l n = lLead l n := by
  unfold ledOn lLead
  have := g.pos
  obtain ⟨h1, h2, h3⟩ := emod_facts n (show (0 : Int) < l.length by omega)
  omega
theorem endAt_add {len : Int} (h : 0 < len) (r : List (Int × Int)) (hr : r ≠ []) (n k : Int) : lEndAt len r (n + len * k) = lEndAt len r n + len * k := by
  have e : ∀ q : Int × Int, (q.1 - (n + len * k)) % len = (q.1 - n) % len := fun q => by
    have : q.1 - (n + len * k) = q.1 - n + len * (-k) := by rw [Int.mul_neg]; omega
    rw [this, Int.add_mul_emod_self_left]
  have hne : ∀ m : Int, r.map (fun q => m + (q.1 - m) % len + q.2 - q.1) ≠ [] := fun m z => hr (by simpa using z)
  unfold lEndAt
  refine (minL_eq ?_ ?_).symm
  · obtain ⟨q, hq, e1⟩ := List.mem_map.mp (minL_mem (hne n))
    refine List.mem_map.mpr ⟨q, hq, ?_⟩
    rw [e, ← e1]
    omega
  · intro b hb
    obtain ⟨q, hq, rfl⟩ := List.mem_map.mp hb
    have := minL_le (List.mem_map.mpr ⟨q, hq, rfl⟩ : _ ∈ r.map (fun q => n + (q.1 - n) % len + q.2 - q.1))
    rw [e]
    omega
theorem endAt_mono {len : Int} (h : 0 < len) (r : List (Int × Int)) (hr : r ≠ []) (n : Int) : lEndAt len r n ≤ lEndAt len r (n + 1) := by
  unfold lEndAt
  have hne : r.map (fun q => (n + 1) + (q.1 - (n + 1)) % len + q.2 - q.1) ≠ [] := fun z => hr (by simpa using z)
  obtain ⟨q, hq, e1⟩ := List.mem_map.mp (minL_mem hne)
  have h1 := minL_le (List.mem_map.mpr ⟨q, hq, rfl⟩ : _ ∈ r.map (fun q => n + (q.1 - n) % len + q.2 - q.1))
  rw [← e1]
  have h2 := Int.emod_nonneg (q.1 - (n + 1)) (show len ≠ 0 by omega)
  have h3 := Int.emod_lt_of_pos (q.1 - n) h
  have h5 := Int.emod_nonneg (q.1 - n) (show len ≠ 0 by omega)
  have h6 := Int.emod_lt_of_pos (q.1 - (n + 1)) h
  have h7 := Int.mul_ediv_add_emod (q.1 - n) len
  have h8 := Int.mul_ediv_add_emod (q.1 - (n + 1)) len
  -- the two rests differ by one, or wrap
  have key : (q.1 - n) % len ≤ 1 + (q.1 - (n + 1)) % len := by
    have e9 : len * ((q.1 - n) / len) - len * ((q.1 - (n + 1)) / len) = len * ((q.1 - n) / len - (q.1 - (n + 1)) / len) := by rw [Int.mul_sub]
    have h10 : (q.1 - (n + 1)) / len ≤ (q.1 - n) / len := Int.ediv_le_ediv h (by omega)
    have h11 : 0 ≤ len * ((q.1 - n) / len - (q.1 - (n + 1)) / len) := Int.mul_nonneg (by omega) (by omega)
    omega
  omega
theorem lead_ends {len : Int} (h : 0 < len) (r : List (Int × Int)) (hr : r ≠ []) (m : Int) : lLead (lEnds len r) m = lEndAt len r m := by
  have hl : (lEnds len r).length = len.toNat := by unfold lEnds; rw [List.length_map, upto_len]
  unfold lLead
  rw [hl, show ((len.toNat : Nat) : Int) = len by omega]
  obtain ⟨h1, h2, h3⟩ := emod_facts m h
  have e : (lEnds len r).getD (m % len).toNat 0 = lEndAt len r (m % len) := by
    unfold lEnds
    rw [List.getD_eq_getElem?_getD, List.getElem?_map, upto_at (by omega)]
    show lEndAt len r (0 + ((m % len).toNat : Int)) = _
    rw [show 0 + ((m % len).toNat : Int) = m % len by omega]
  rw [e]
  have := endAt_add h r hr (m % len) (m / len)
  rw [← h3] at this
  omega
theorem lEnds_mono {len : Int} (h : 0 < len) (r : List (Int × Int)) (hr : r ≠ []) : Mono (lEnds len r) := fun m => by
  rw [lead_ends h r hr, lead_ends h r hr]
  exact endAt_mono h r hr m
/-- all links of a table never overtake -/
def MonoT (t : Tb) : Prop := ∀ (s : Str) (l : List Int), t.lookup s = some l → Mono l
theorem lk_mono {len : Int} (h : 0 < len) {rs : Rt} (g : GoodRt rs) : MonoT (lkOf len rs) := fun s l hl => by
  unfold lkOf at hl
  rw [lookup_map] at hl
  cases e : rs.lookup s with
  | none => rw [e] at hl; cases hl
  | some r =>
    rw [e] at hl
    cases hl
    exact lEnds_mono h r (fun z => by have := (g.good _ (lookup_mem e)).pos; rw [z] at this; exact absurd this (by simp))
theorem ledG_append (t : Tb) (a b : List Str) (n : Int) : ledG t (a ++ b) n = ledG t b (ledG t a n) := List.foldl_append
/-- HEART (MIRROR) -/
theorem mirror {t : Tb} {len : Nat} (gt : GoodT t len) (mt : MonoT t) : ∀ (ss : List Str), (∀ s ∈ ss, s ∈ ups ∧ (t.lookup (Txt.lower s)).isSome = true) → ∀ m n : Int, m ≤ led t ss n ↔ ledG t (ss.reverse.map Txt.lower) m ≤ n
  | [], _, m, n => by simp [led, ledG]
  | s :: ss, h, m, n => by
    obtain ⟨hu, hs⟩ := h s List.mem_cons_self
    obtain ⟨l, el⟩ := Option.isSome_iff_exists.mp hs
    have gl := (gt.good _ l el).1
    obtain ⟨_, _, f3, _⟩ := up_facts s hu
    have f := sgn_facts s (List.mem_append.mpr (.inr hu))
    have e1 : led t (s :: ss) n = led t ss (ledBack l n) := by unfold led; rw [List.foldl_cons, el]; rfl
    have e2 : ∀ k, ledG t [Txt.lower s] k = lLead l k := fun k => by
      show step1 t (Txt.lower s) k = _
      unfold step1
      rw [if_pos f.2.2.2.2.2.1, f.2.2.2.2.1, el]
      exact ledOn_lead gl k
    rw [List.reverse_cons, List.map_append, List.map_singleton, ledG_append, e1, e2, mirror gt mt ss (fun q hq => h q (List.mem_cons_of_mem _ hq)), galois gl (mt _ l el)]
theorem led_mono {t : Tb} {len : Nat} (gt : GoodT t len) (mt : MonoT t) {ss : List Str} (h : ∀ s ∈ ss, s ∈ ups ∧ (t.lookup (Txt.lower s)).isSome = true) {a b : Int} (hab : a ≤ b) : led t ss a ≤ led t ss b := by
  have h1 := (mirror gt mt ss h (led t ss a) a).mp (Int.le_refl _)
  exact (mirror gt mt ss h _ b).mpr (by omega)
theorem step1_tab {ds : Tb} {len : Nat} (g : GoodT ds len) (s : Str) (n : Int) : step1 (tabOf ds) s n = step1 ds s n := by unfold step1; rw [tab_look g]
theorem ledG_tab {ds : Tb} {len : Nat} (g : GoodT ds len) : ∀ (ss : List Str) (n : Int), ledG (tabOf ds) ss n = ledG ds ss n
  | [], _ => rfl
  | s :: ss, n => by
    show ledG (tabOf ds) ss (step1 (tabOf ds) s n) = ledG ds ss (step1 ds s n)
    rw [step1_tab g, ledG_tab g ss]
theorem tab_row {ds : Tb} {len : Nat} (g : GoodT ds len) {z : Str} (r : Row ds z) : Row (tabOf ds) z := ⟨fun s hs => by rw [tab_look g]; exact r.st s hs, r.len⟩
/-! ### bounds -/
def aboveOf (l : List Int) (b : Int) : List Int := ((((upto 0 l.length).zip l).filter fun p => decide (b < p.2)).map fun p => p.1)
def cNeedBound : Ctr := fun _ as res => ∃ n : Int, 0 ≤ n ∧ as = [.val rInt n] ∧ res = (fun u => u = .val rNone ())
def cAbove : Ctr := fun _ as res => ∃ (l : List Int) (b : Int), l.length ≤ 1000 ∧ as = [.val (rTup rInt) l, .val rInt b] ∧ res = (fun u => u = .val (rTupN rInt) (aboveOf l b))
def cLate (CD CT : Addr) : Ctr := fun _ as res => ∃ (t : Tb) (len : Nat) (b : Bool) (zs : List Str) (n : Int), GoodT t len ∧ Rels t zs ∧ 0 ≤ n ∧ as = [.val (rTable CD CT) t, .val (rSeq b rStr) zs, .val rInt n] ∧ res = (fun u => u = .val (rTupN rInt) (aboveOf (leastAges t len zs) n))
theorem zip_upto (l : List Int) : (upto 0 l.length).zip l = (upto 0 l.length).map fun n => (n, l.getD n.toNat 0) := by
  apply List.ext_getElem?
  intro i
  rw [List.getElem?_map]
  by_cases h : i < l.length
  · rw [upto_at h]
    have : ((upto 0 l.length).zip l)[i]? = some ((0 : Int) + i, l[i]) := List.getElem?_zip_eq_some.mpr ⟨upto_at h, List.getElem?_eq_getElem h⟩
    rw [this]
    simp [List.getElem?_eq_getElem h]
  · rw [List.getElem?_eq_none (by simp [upto_len]; omega), List.getElem?_eq_none (by rw [upto_len]; omega)]
    rfl
theorem above_eq (l : List Int) (b : Int) : aboveOf l b = (upto 0 l.length).filter fun n => decide (b < l.getD n.toNat 0) := by
  unfold aboveOf
  rw [zip_upto, List.filter_map, List.map_map]
  show List.map (fun n => n) _ = _
  rw [List.map_id']
  rfl
theorem above_nil {l : List Int} {b : Int} (hl : l ≠ []) : (aboveOf l b = []) ↔ maxL l ≤ b := by
  rw [above_eq]
  constructor
  · intro h
    have hm := maxL_mem hl
    obtain ⟨i, hi⟩ := List.mem_iff_getElem?.mp hm
    have hlt := (List.getElem?_eq_some_iff.mp hi).1
    have h1 : (i : Int) ∈ upto 0 l.length := List.mem_of_getElem? (i := i) (by rw [upto_at hlt, Int.zero_add])
    by_cases hb : maxL l ≤ b
    · exact hb
    · have : (i : Int) ∈ (upto 0 l.length).filter fun n => decide (b < l.getD n.toNat 0) := List.mem_filter.mpr ⟨h1, by
        rw [List.getD_eq_getElem?_getD, Int.toNat_natCast, hi]
        exact decide_eq_true (by show b < maxL l; omega)⟩
      rw [h] at this
      cases this
  · intro h
    refine List.filter_eq_nil_iff.mpr fun n hn => ?_
    have h2 := mem_upto hn
    have hlt : n.toNat < l.length := by omega
    have h3 := maxL_ge (List.getElem_mem hlt)
    rw [List.getD_eq_getElem?_getD, List.getElem?_eq_getElem hlt]
    simp
    omega
section
variable {P : Program} {w : World} {K : PySem.W.Frag} {mg : Str → Option Value} {base : Heap} {f f1 f2 f3 f4 CD CT : Addr} {fd fd1 fd2 fd3 fd4 : FuncData} {tk tk2 : Tok}
end
end My

namespace My
open PySem L2 RT
/-! ### shifted links -/
def ridesOf (l : List Int) : List (Int × Int) := ((upto 0 l.length).zip l).filter fun p => decide (p.2 < ledOn l (p.1 + 1))
def mv (l : List Int) (k : Int) : List Int := (upto 0 l.length).map fun n => lLead l (n - k) + k
theorem lead_per {l : List Int} (h : 0 < l.length) (n k : Int) : lLead l (n + l.length * k) = lLead l n + l.length * k := by
  unfold lLead
  rw [Int.add_mul_emod_self_left]
  omega
/-- the least end of the rides that a map takes is where the map leads -/
theorem first_step {F : Int → Int} {L : Nat} (hm : ∀ n, F n ≤ F (n + 1)) (hp : ∀ n k : Int, F (n + L * k) = F n + L * k) (hL : 0 < L) (a : Int) : ∃ i : Nat, i < L ∧ F (a + i) = F a ∧ F (a + i) < F (a + i + 1) := by
  have h : ∀ k : Nat, (∃ i : Nat, i < k ∧ F (a + i) = F a ∧ F (a + i) < F (a + i + 1)) ∨ F (a + k) = F a := fun k => by
    induction k with
    | zero => exact .inr (by simp)
    | succ k ih =>
      rcases ih with ⟨i, hi, h⟩ | h
      · exact .inl ⟨i, by omega, h⟩
      · have h1 := hm (a + k)
        have e : a + ((k + 1 : Nat) : Int) = a + k + 1 := by omega
        by_cases q : F (a + k) < F (a + k + 1)
        · exact .inl ⟨k, by omega, h, q⟩
        · exact .inr (by rw [e]; omega)
  rcases h L with h | h
  · exact h
  · have := hp a 1
    rw [show a + (L : Int) * 1 = a + L by omega] at this
    omega
theorem ends_of_steps {l : List Int} (g : Good l) (hm : Mono l) (k : Int) : endsOf l.length ((ridesOf l).map fun r => (r.1 + k, r.2 + k)) = mv l k := by
  unfold endsOf mv
  rw [Int.toNat_natCast]
  refine List.map_congr_left fun n hn => ?_
  unfold endAt
  rw [List.map_map]
  have hL : (0 : Int) < l.length := by have := g.pos; omega
  have hat : ∀ (p : Int × Int), p ∈ ((upto 0 l.length).zip l) → 0 ≤ p.1 ∧ p.1 < l.length ∧ p.2 = lLead l p.1 := fun p hp => by
    rw [zip_upto] at hp
    obtain ⟨m, hm, rfl⟩ := List.mem_map.mp hp
    have h := mem_upto hm
    refine ⟨h.1, by omega, ?_⟩
    unfold lLead
    rw [Int.emod_eq_of_lt h.1 (by omega)]
    show l.getD m.toNat 0 = _
    omega
  refine (minL_eq ?_ ?_).symm
  · obtain ⟨i, hi, e1, e2⟩ := first_step (F := lLead l) hm (fun n k => lead_per g.pos n k) g.pos (n - k)
    obtain ⟨q1, q2, q3⟩ := emod_facts (n - k + i) hL
    refine List.mem_map.mpr ⟨((n - k + i) % l.length, lLead l ((n - k + i) % l.length)), ?_, ?_⟩
    · refine List.mem_filter.mpr ⟨?_, decide_eq_true ?_⟩
      · rw [zip_upto]
        refine List.mem_map.mpr ⟨(n - k + i) % l.length, List.mem_of_getElem? (i := ((n - k + i) % l.length).toNat) (by rw [upto_at (by omega)]; congr 1; omega), ?_⟩
        congr 1
        unfold lLead
        rw [Int.emod_eq_of_lt q1 q2]
        omega
      · show lLead l ((n - k + i) % l.length) < ledOn l ((n - k + i) % l.length + 1)
        rw [ledOn_lead g]
        have p1 := lead_per g.pos ((n - k + i) % l.length) ((n - k + i) / l.length)
        have p2 := lead_per g.pos ((n - k + i) % l.length + 1) ((n - k + i) / l.length)
        rw [← q3] at p1
        rw [show (n - k + i) % (l.length : Int) + 1 + l.length * ((n - k + i) / l.length) = n - k + i + 1 by omega] at p2
        omega
    · show lLead l ((n - k + i) % l.length) + k - l.length * (((n - k + i) % l.length + k - n) / l.length) = _
      have p1 := lead_per g.pos ((n - k + i) % l.length) ((n - k + i) / l.length)
      rw [← q3] at p1
      have p3 : ((n - k + i) % (l.length : Int) + k - n) / l.length = -((n - k + i) / l.length) := by
        have e : (n - k + i) % (l.length : Int) + k - n = i + l.length * -((n - k + i) / l.length) := by rw [Int.mul_neg]; omega
        rw [e, Int.add_mul_ediv_left _ _ (by omega), Int.ediv_eq_zero_of_lt (by omega) (by omega)]
        omega
      rw [p3, Int.mul_neg]
      omega
  · intro b hb
    obtain ⟨p, hp, rfl⟩ := List.mem_map.mp hb
    obtain ⟨h1, h2, h3⟩ := hat p (List.mem_filter.mp hp).1
    show _ ≤ p.2 + k - l.length * ((p.1 + k - n) / l.length)
    obtain ⟨q1, q2, q3⟩ := emod_facts (p.1 + k - n) hL
    have p1 := lead_per g.pos p.1 (-((p.1 + k - n) / l.length))
    have p2 : lLead l (n - k) ≤ lLead l (p.1 + l.length * -((p.1 + k - n) / l.length)) := hm.le' (by rw [Int.mul_neg]; omega)
    rw [p1, Int.mul_neg, ← h3] at p2
    omega
theorem mv_len {l : List Int} {k : Int} : (mv l k).length = l.length := by unfold mv; rw [List.length_map, upto_len]
theorem lead_mv {l : List Int} (h : 0 < l.length) (k m : Int) : lLead (mv l k) m = lLead l (m - k) + k := by
  unfold lLead
  rw [mv_len]
  obtain ⟨h1, h2, h3⟩ := emod_facts m (show (0 : Int) < l.length by omega)
  have e : (mv l k).getD (m % l.length).toNat 0 = lLead l (m % l.length - k) + k := by
    unfold mv
    rw [List.getD_eq_getElem?_getD, List.getElem?_map, upto_at (by omega)]
    show lLead l (0 + ((m % l.length).toNat : Int) - k) + k = _
    rw [show 0 + ((m % (l.length : Int)).toNat : Int) = m % l.length by omega]
  rw [e]
  have := lead_per h (m % l.length - k) (m / l.length)
  rw [show m % (l.length : Int) - k + l.length * (m / l.length) = m - k by omega] at this
  unfold lLead at this
  unfold lLead
  omega
theorem mv_good {l : List Int} (g : Good l) (k : Int) : Good (mv l k) := by
  refine ⟨by rw [mv_len]; exact g.pos, by rw [mv_len]; exact g.len, fun i x hx => ?_⟩
  unfold mv at hx
  have hi : i < l.length := by have := (List.getElem?_eq_some_iff.mp hx).1; rw [List.length_map, upto_len] at this; exact this
  rw [List.getElem?_map, upto_at hi, Int.zero_add] at hx
  have hx : lLead l ((i : Int) - k) + k = x := Option.some.inj hx
  have h2 := lead_ge g ((i : Int) - k)
  omega
theorem mv_mono {l : List Int} (g : Good l) (h : Mono l) (k : Int) : Mono (mv l k) := fun m => by
  rw [lead_mv g.pos, lead_mv g.pos]
  have := h (m - k)
  rw [show m - k + 1 = m + 1 - k by omega] at this
  omega
theorem mv_far {l : List Int} (h : 0 < l.length) (k q : Int) : mv l (k + l.length * q) = mv l k := by
  unfold mv
  refine List.map_congr_left fun n _ => ?_
  have := lead_per h (n - k) (-q)
  rw [Int.mul_neg] at this
  rw [show n - (k + l.length * q) = n - k + -(l.length * q) by omega, this]
  omega
theorem back_mv {l : List Int} (g : Good l) (k m : Int) : ledBack (mv l k) m = ledBack l (m - k) + k := by
  have h1 := ledBack_gr (mv_good g k) m
  have h2 := ledBack_gr g (m - k)
  refine h1.uniq ⟨by rw [lead_mv g.pos]; have := h2.1; rw [show ledBack l (m - k) + k - k = ledBack l (m - k) by omega]; omega, fun q hq => ?_⟩
  rw [lead_mv g.pos] at hq
  have := h2.2 (q - k) (by omega)
  omega
theorem rides_ok {l : List Int} (g : Good l) (hm : Mono l) (k : Int) : 0 < ((ridesOf l).map fun r => (r.1 + k, r.2 + k)).length ∧ ((ridesOf l).map fun r => (r.1 + k, r.2 + k)).length ≤ 60 ∧ ∀ x ∈ (ridesOf l).map fun r => (r.1 + k, r.2 + k), x.1 ≤ x.2 := by
  have h1 : (ridesOf l).length ≤ l.length := by
    unfold ridesOf
    refine Nat.le_trans (List.length_filter_le _ _) ?_
    rw [List.length_zip, upto_len]
    omega
  have hg := g.len
  refine ⟨?_, by rw [List.length_map]; omega, fun x hx => ?_⟩
  · obtain ⟨i, hi, e1, e2⟩ := first_step (F := lLead l) hm (fun n k => lead_per g.pos n k) g.pos 0
    rw [Int.zero_add] at e1 e2
    have hil : (l.getD i 0) = lLead l i := by
      have := lead_at g hi 0
      rw [Int.mul_zero, Int.add_zero, Int.add_zero] at this
      exact this.symm
    have hmem : ((i : Int), lLead l i) ∈ ridesOf l := by
      refine List.mem_filter.mpr ⟨?_, decide_eq_true ?_⟩
      · rw [zip_upto]
        refine List.mem_map.mpr ⟨(i : Int), List.mem_of_getElem? (i := i) (by rw [upto_at hi, Int.zero_add]), ?_⟩
        rw [Int.toNat_natCast, hil]
      · show lLead l i < ledOn l ((i : Int) + 1)
        rw [ledOn_lead g]
        exact e2
    rw [List.length_map]
    exact List.length_pos_of_mem hmem
  · obtain ⟨p, hp, rfl⟩ := List.mem_map.mp hx
    have hp2 := (List.mem_filter.mp hp).1
    rw [zip_upto] at hp2
    obtain ⟨m, hm2, rfl⟩ := List.mem_map.mp hp2
    have h := mem_upto hm2
    have h3 := g.at_ m.toNat (l.getD m.toNat 0) (getD_at h.1 (by omega))
    show m + k ≤ l.getD m.toNat 0 + k
    omega
theorem ends_self {l : List Int} (g : Good l) (hm : Mono l) : endsOf l.length ((upto 0 l.length).zip l) = l := by
  apply List.ext_getElem?
  intro i
  unfold endsOf
  rw [Int.toNat_natCast]
  by_cases hi : i < l.length
  · rw [List.getElem?_map, upto_at hi, List.getElem?_eq_getElem hi, Int.zero_add]
    show some (endAt l.length ((upto 0 l.length).zip l) i) = _
    congr 1
    have hL : (0 : Int) < l.length := by omega
    have hil : l[i] = lLead l i := by
      have h := lead_at g hi 0
      rw [Int.mul_zero, Int.add_zero, Int.add_zero, List.getD_eq_getElem?_getD, List.getElem?_eq_getElem hi] at h
      exact h.symm
    unfold endAt
    refine (minL_eq ?_ ?_).symm
    · refine List.mem_map.mpr ⟨((i : Int), l[i]), ?_, ?_⟩
      · exact List.mem_of_getElem? (i := i) (List.getElem?_zip_eq_some.mpr ⟨by rw [upto_at hi, Int.zero_add], List.getElem?_eq_getElem hi⟩)
      · show l[i] - l.length * (((i : Int) - i) / l.length) = _
        rw [Int.sub_self, Int.zero_ediv, Int.mul_zero]; omega
    · intro b hb
      obtain ⟨p, hp, rfl⟩ := List.mem_map.mp hb
      rw [zip_upto] at hp
      obtain ⟨m, hm2, rfl⟩ := List.mem_map.mp hp
      have h := mem_upto hm2
      have hmm : l.getD m.toNat 0 = lLead l m := by
        have h := lead_at g (i := m.toNat) (by omega) 0
        rw [Int.mul_zero, Int.add_zero, Int.add_zero, show ((m.toNat : Nat) : Int) = m by omega] at h
        exact h.symm
      show l[i] ≤ l.getD m.toNat 0 - l.length * ((m - i) / l.length)
      obtain ⟨q1, q2, q3⟩ := emod_facts (m - i) hL
      have p1 := lead_per g.pos m (-((m - i) / l.length))
      have p2 : lLead l i ≤ lLead l (m + l.length * -((m - i) / l.length)) := hm.le' (by rw [Int.mul_neg]; omega)
      rw [p1, Int.mul_neg] at p2
      rw [hil, hmm]
      omega
  · rw [List.getElem?_eq_none (by rw [List.length_map, upto_len]; omega), List.getElem?_eq_none (by omega)]
/-! ### contracts -/
def cDRides (CD : Addr) : Ctr := fun _ as res => ∃ l : List Int, Good l ∧ as = [.val (rDaily CD) l] ∧ res = (fun u => u = .val (rTup (rPair rInt rInt)) (ridesOf l))
def cMoved (CD : Addr) : Ctr := fun _ as res => ∃ (l : List Int) (k : Int), Good l ∧ Mono l ∧ as = [.val (rDaily CD) l, .val rInt k] ∧ res = (fun u => u = .val (rDaily CD) (mv l k))
def cEqD (CD : Addr) : Ctr := fun _ as res => ∃ l : List Int, l.length ≤ 1000 ∧ as = [.val (rDaily CD) l, .val (rDaily CD) l] ∧ res = (fun u => u = .val rBool true)
def cGet (CD CT : Addr) : Ctr := fun _ as res => ∃ (t : Tb) (s : Str) (l : List Int), t.lookup s = some l ∧ as = [.val (rTable CD CT) t, .val rStr s] ∧ res = (fun u => u = .val (rDaily CD) l)
def withL (t : Tb) (s : Str) (l : List Int) : Tb := (t.map (·.1)).map fun q => (q, if (q == s) = true then l else (t.lookup q).getD [])
def cWith (CD CT : Addr) : Ctr := fun _ as res => ∃ (t : Tb) (len : Nat) (s : Str) (l : List Int), GoodT t len ∧ Good l ∧ l.length = len ∧ as = [.val (rTable CD CT) t, .val rStr s, .val (rDaily CD) l] ∧ res = (fun u => u = .val (rTable CD CT) (tabOf (withL t s l)))
theorem look_keys {α : Type} (g : Str → α) (s : Str) : ∀ ks : List Str, (ks.map fun q => (q, g q)).lookup s = if s ∈ ks then some (g s) else none
  | [] => by simp
  | k :: ks => by
    rw [List.map_cons, List.lookup_cons]
    by_cases e : s = k
    · subst e
      rw [beq_self_eq_true]
      simp
    · rw [show (s == k) = false by simpa using e]
      show List.lookup s _ = _
      rw [look_keys g s ks]
      simp [e]
theorem keys_look {α : Type} {t : List (Str × α)} {s : Str} : s ∈ t.map (·.1) ↔ (t.lookup s).isSome = true :=
  ⟨fun h => lookup_some h, fun h => by
    obtain ⟨x, e⟩ := Option.isSome_iff_exists.mp h
    exact mem_keys e⟩
theorem with_look {t : Tb} {s q : Str} {l : List Int} : (withL t s l).lookup q = if (t.lookup q).isSome = true then some (if (q == s) = true then l else (t.lookup q).getD []) else none := by
  unfold withL
  rw [look_keys]
  by_cases h : q ∈ t.map (·.1)
  · rw [if_pos h, if_pos (keys_look.mp h)]
  · rw [if_neg h, if_neg (fun z => h (keys_look.mpr z))]
theorem with_good {t : Tb} {len : Nat} (gt : GoodT t len) {s : Str} {l : List Int} (g : Good l) (hl : l.length = len) : GoodT (withL t s l) len := by
  have hk : (withL t s l).map (·.1) = t.map (·.1) := by unfold withL; rw [List.map_map]; exact List.map_id' _
  refine ⟨fun h => gt.ne (by have := congrArg List.length hk; rw [h] at this; simpa using this.symm), by rw [hk]; exact gt.nd, by rw [hk]; exact gt.low, fun q x hx => ?_⟩
  rw [with_look] at hx
  by_cases h : (t.lookup q).isSome = true
  · rw [if_pos h] at hx
    obtain ⟨y, ey⟩ := Option.isSome_iff_exists.mp h
    cases hx
    rw [ey]
    split
    · exact ⟨g, hl⟩
    · exact gt.good q y ey
  · rw [if_neg h] at hx; cases hx
theorem led_congr {t t' : Tb} (h : ∀ s, t.lookup s = t'.lookup s) (ss : List Str) (n : Int) : led t ss n = led t' ss n := by
  unfold led
  congr 1
  funext n s
  rw [h]
theorem ages_congr {t t' : Tb} (h : ∀ s, t.lookup s = t'.lookup s) (len : Nat) (z : Str) : agesBy t len z = agesBy t' len z := by
  unfold agesBy
  exact List.map_congr_left fun n _ => by rw [led_congr h]
/-- the letter of a relay's last step -/
def lastLow (z : Str) : Str := Txt.lower ((signs z).getLastD "")
/-- a timetable with one link shifted -/
def othOf (t : Tb) (s : Str) (b : Int) : Tb := withL t s (mv ((t.lookup s).getD []) b)
def shiftAges (t : Tb) (len : Nat) (z : Str) : List Int := (upto 0 len).map fun b => maxL (agesBy (othOf t (lastLow z) b) len z)
def cShiftAges (CD CT : Addr) : Ctr := fun _ as res => ∃ (t : Tb) (len : Nat) (z : Str), GoodT t len ∧ MonoT t ∧ Rel t z ∧ as = [.val (rTable CD CT) t, .val rStr z] ∧ res = (fun u => u = .val (rTup rInt) (shiftAges t len z))
def bestOf (l : List Int) : Int × List Int := (minL l, (((upto 0 l.length).zip l).filter fun p => decide (p.2 = minL l)).map fun p => p.1)
def cBest (CD CT : Addr) : Ctr := fun _ as res => ∃ (t : Tb) (len : Nat) (z : Str), GoodT t len ∧ MonoT t ∧ Rel t z ∧ as = [.val (rTable CD CT) t, .val rStr z] ∧ res = (fun u => u = .val (rPair rInt (rTup rInt)) (bestOf (shiftAges t len z)))
theorem Rel.last {t : Tb} {z : Str} (r : Rel t z) : ∃ c : Nat, z.cps.toList.getLast? = some c ∧ (⟨#[c]⟩ : Str) ∈ signs z ∧ (signs z).getLastD "" = ⟨#[c]⟩ := by
  have h0 : z.cps.toList ≠ [] := fun h => by
    have := r.pos
    have h2 : z.length = z.cps.toList.length := by show z.cps.size = _; simp
    rw [h2, h] at this
    exact absurd this (by decide)
  refine ⟨z.cps.toList.getLast h0, List.getLast?_eq_some_getLast h0, ?_, ?_⟩
  · exact List.mem_map.mpr ⟨_, List.getLast_mem h0, rfl⟩
  · unfold signs
    rw [List.getLastD_eq_getLast?, List.getLast?_map, List.getLast?_eq_some_getLast h0]
    rfl
theorem Rel.lastLook {t : Tb} {z : Str} (r : Rel t z) : ∃ l, t.lookup (lastLow z) = some l := by
  obtain ⟨c, _, h2, h3⟩ := r.last
  unfold lastLow
  rw [h3]
  exact Option.isSome_iff_exists.mp (r.up _ h2).2
theorem Rel.with {t : Tb} {z : Str} (r : Rel t z) {s : Str} {l : List Int} : Rel (withL t s l) z := ⟨fun q hq => ⟨(r.up q hq).1, by rw [with_look, if_pos (r.up q hq).2]; rfl⟩, r.pos, r.len⟩
theorem tuples_len {a : List Int} {P : Int × Int → Bool} : ((((upto 0 a.length).zip a).filter P).map fun p => p.1).length ≤ a.length := by
  rw [List.length_map]
  refine Nat.le_trans (List.length_filter_le _ _) ?_
  rw [List.length_zip, upto_len]
  omega
section
variable {P : Program} {w : World} {K : PySem.W.Frag} {mg : Str → Option Value} {base : Heap} {f f1 f2 f3 f4 f5 CD CT : Addr} {fd fd1 fd2 fd3 fd4 fd5 fd6 fd7 : FuncData} {tk tk2 : Tok}
theorem sc_rides_p : FnScope ["self", "at", "end"] ["self"] (defScope (inClass (top 25) 2)) := ⟨rfl, rfl, rfl, by decide +kernel, rfl, by decide +kernel, by decide +kernel⟩
theorem ok_drides (F : Fun K "rides" "Daily.rides" (inClass (top 25) 2) f fd) (B : Bn mg) (Q : Kls K mg CD CT) (D1 : DefC P w K mg base "led_on" 1 f1 fd1 ["ends", "number"] cLedOn) : FnOk P w K mg base CX0 2 f fd ["self"] (spC (cDRides CD)) := by
  refine fn_mk F sc_rides_p (fun _ _ _ ⟨_, _, h, _⟩ => by rw [h]; rfl) fun cdv A outer s H E hr M as res ⟨l, g, ha, hres⟩ => ?_
  subst ha hres
  have hl := g.len
  exact ss_retV (ev_is (ev_tupleL B.tuple (EFt.ev (ef_lc (pb := fun p : Int × Int => decide (p.2 < ledOn l (p.1 + 1))) (g := fun p => p) (own := [("at", 1), ("end", 2)]) rfl sc_rides_p.nd (it_enum B.enumerate (ev_fld (ev_var 0) Q.d.cl Q.nE rfl) sk_tup (by omega)) (blkOk_by (by kernel_rfl)) (by decide) (fun _ _ _ _ _ _ => tg_pair 1 2 rfl sc_rides_p.nd)
    (fun _ _ _ _ _ x hx => ts_one (tv_cmp1 (ev_lt (ev_var 2) (ev_call D1 hr (ea_cons (ev_fld (ev_var 0) Q.d.cl Q.nE rfl) (ea_cons (ev_add (ev_var 1) ev_int) ea_nil)) ⟨l, _, rfl, g.pos, by omega, rfl⟩)))) (fun _ _ _ _ _ x hx _ => ev_pair (ea_cons (ev_var 1) (ea_cons (ev_var 2) ea_nil)))))) (by rw [List.map_id']; rfl)) rfl
theorem sc_eqD : FnScope ["self", "other"] ["self", "other"] (defScope (inClass (top 25) 6)) := ⟨rfl, rfl, rfl, by decide +kernel, rfl, by decide +kernel, by decide +kernel⟩
theorem eqv_ints : ∀ ns : List Int, PyData.eqvAll (ns.map PyData.int) (ns.map PyData.int) = true
  | [] => rfl
  | n :: ns => by
    show (PyData.eqv (.int n) (.int n) && PyData.eqvAll (ns.map PyData.int) (ns.map PyData.int)) = true
    rw [eqv_ints ns, show PyData.eqv (.int n) (.int n) = true from decide_eq_true rfl]; rfl
theorem ok_eqD (F : Fun K "__eq__" "Daily.__eq__" (inClass (top 25) 6) f fd) (B : Bn mg) (Q : Kls K mg CD CT) : FnOk P w K mg base CX0 1 f fd ["self", "other"] (spC (cEqD CD)) := by
  refine fn_mk F sc_eqD (fun _ _ _ ⟨_, _, h, _⟩ => by rw [h]; rfl) fun cdv A outer s H E hr M as res ⟨l, hl, ha, hres⟩ => ?_
  subst ha hres
  exact ss_retV (ev_is (ev_and (t1 := true) (ev_isi B.isinstance (ev_var 1) (pe_own Q.mD) (.own _) (fun x px => ⟨_, ty_obj Q.d, kit_self⟩)) fun _ => ev_and1 (ev_eqD (hr.lt 64) (ev_fld (ev_var 0) Q.d.cl Q.nE rfl) (ev_fld (ev_var 1) Q.d.cl Q.nE rfl) (hd_tup PyData.int fun _ _ => hd_int) (hd_tup PyData.int fun _ _ => hd_int) shaped_intsT shaped_intsT)) (by show (true && PyData.eqvAll _ _) = true; rw [eqv_ints]; rfl)) rfl
theorem sc_get : FnScope ["self", "index"] ["self", "index"] (defScope (inClass (top 43) 3)) := ⟨rfl, rfl, rfl, by decide +kernel, rfl, by decide +kernel, by decide +kernel⟩
theorem ok_get (F : Fun K "__getitem__" "DailyTable.__getitem__" (inClass (top 43) 3) f fd) (B : Bn mg) (Q : Kls K mg CD CT) : FnOk P w K mg base CX0 1 f fd ["self", "index"] (spC (cGet CD CT)) := by
  refine fn_mk F sc_get (fun _ _ _ ⟨_, _, _, _, h, _⟩ => by rw [h]; rfl) fun cdv A outer s H E hr M as res ⟨t, s, l, hl, ha, hres⟩ => ?_
  subst ha hres
  refine ss_ifn (tw_val (tw_or (t1 := false) (tv_not (t1 := true) (tv_val (ev_isi B.isinstance (ev_var 1) (pe_tyn B.str (by decide +kernel)) (.ty "str") (fun x px => ⟨_, ty_str, kit_ty (by decide +kernel)⟩)))) fun _ => tw_or1 (tv_is (tv_cmp1 (ev_dnotin (hr.lt 1) (ev_var 1) (ev_fld (ev_var 0) Q.t.cl Q.nL rfl))) (by rw [hl]; rfl)))) ?_
  exact ss_retV (ev_dget (hr.lt 1) (ev_fld (ev_var 0) Q.t.cl Q.nL rfl) (ev_var 1) hl) rfl
theorem shift_len {t : Tb} {len : Nat} {z : Str} : (shiftAges t len z).length = len := by unfold shiftAges; rw [List.length_map, upto_len]
end
end My

namespace My
open PySem L2 RT
/-! ### what raises: tables, relays -/
def isRel (s : Str) : Bool := (decide (1 ≤ (s.length : Int)) && decide ((s.length : Int) ≤ 12)) && (signs s).all fun c => inS c "ABCD"
def isRelO : Od → Bool
  | .str s => isRel s
  | .ty _ => false
def OdOk (K : PySem.W.Frag) : Od → Prop
  | .str s => s.length ≤ 1000
  | .ty t => PySem.W.kitOne K t (.type "str") = some false
def lackOf (t : Tb) (ss : List Str) : Option Str := ss.find? fun s => !(t.lookup (Txt.lower s)).isSome
/-- what need_relay raises -/
def relErr (NR NL : Addr) (t : Tb) : Od → Option Er
  | .ty _ => some ⟨NR, []⟩
  | .str z => if isRel z = true then (lackOf t (signs z)).map fun s => ⟨NL, [("letter", .str (Txt.lower s))]⟩ else some ⟨NR, []⟩
def leD (l1 l2 : List Int) : Bool := (l1.zip l2).all fun p => decide (p.1 ≤ p.2)
def crossOf (t1 t2 : Tb) : Option Str := (t1.map (·.1)).find? fun s => !leD ((t1.lookup s).getD []) ((t2.lookup s).getD [])
/-- what age_bounds raises of two tables -/
def boundsErr (NT OL CR NR NL : Addr) (t1 : Tb) (n1 : Nat) (t2 : Tb) (n2 : Nat) (x : Od) : Option Er :=
  if t2.map (·.1) = t1.map (·.1) then if n2 = n1 then match crossOf t1 t2 with
    | some s => some ⟨CR, [("letter", .str s)]⟩
    | none => relErr NR NL t1 x
  else some ⟨OL, []⟩ else some ⟨NT, []⟩
def agesO (t : Tb) (n : Nat) : Od → List Int
  | .str z => agesBy t n z
  | .ty _ => []
theorem mem_signs_size {z s : Str} (h : s ∈ signs z) : s.cps.size = 1 := by
  obtain ⟨c, _, rfl⟩ := List.mem_map.mp h
  rfl
theorem ups_of {s : Str} (h : s.cps.size = 1) (hi : inS s "ABCD" = true) : s ∈ ups := by
  have e := sign_eq h
  have m : s.cps.getD 0 0 ∈ ("ABCD" : Str).cps.toList := of_decide_eq_true hi
  have q : (⟨#[s.cps.getD 0 0]⟩ : Str) ∈ signs "ABCD" := List.mem_map_of_mem (f := fun c => (⟨#[c]⟩ : Str)) m
  rw [e]
  exact (show signs "ABCD" = ups by decide +kernel) ▸ q
theorem isRel_ups {z : Str} (h : isRel z = true) : ∀ s ∈ signs z, s ∈ ups := fun s hs => by
  unfold isRel at h
  rw [Bool.and_eq_true, List.all_eq_true] at h
  exact ups_of (mem_signs_size hs) (h.2 s hs)
theorem isRel_len {z : Str} (h : isRel z = true) : 0 < z.length ∧ z.length ≤ 12 := by
  unfold isRel at h
  rw [Bool.and_eq_true, Bool.and_eq_true, decide_eq_true_eq, decide_eq_true_eq] at h
  omega
theorem rel_of {t : Tb} {z : Str} (h : isRel z = true) (hl : lackOf t (signs z) = none) : Rel t z := ⟨fun s hs => ⟨isRel_ups h s hs, by
  have := List.find?_eq_none.mp hl s hs
  simpa using this⟩, (isRel_len h).1, (isRel_len h).2⟩
theorem rel_is {t : Tb} {z : Str} (r : Rel t z) : isRel z = true ∧ lackOf t (signs z) = none := by
  have h1 := r.pos
  have h2 := r.len
  constructor
  · unfold isRel
    rw [Bool.and_eq_true, Bool.and_eq_true, decide_eq_true_eq, decide_eq_true_eq, List.all_eq_true]
    exact ⟨⟨by omega, by omega⟩, fun s hs => (up_facts s (r.up s hs).1).2.2.2.2.1⟩
  · exact List.find?_eq_none.mpr fun s hs => by rw [(r.up s hs).2]; simp
/-! ### contracts -/
def cIsRelO (K : PySem.W.Frag) : Ctr := fun _ as res => ∃ x : Od, OdOk K x ∧ as = [.val (rOd K) x] ∧ res = (fun u => u = .val rBool (isRelO x))
def cNeedTableX (K : PySem.W.Frag) (CT NT : Addr) : CtrX := fun M N as res Z => M = N ∧ ∃ (α : Type) (R : Rp α) (x : α) (t : Value) (b : Bool), TyR K R x t ∧ PySem.W.kitOne K t (.ref CT) = some b ∧ as = [.val R x] ∧ res = (fun u => b = true ∧ u = .val rNone ()) ∧ Z = fun z => b = false ∧ z = ⟨NT, []⟩
def cNeedLinksX (CD CT NL : Addr) : CtrX := fun M N as res Z => M = N ∧ ∃ (t : Tb) (len : Nat) (z : Str), GoodT t len ∧ (∀ s ∈ signs z, s ∈ ups) ∧ z.length ≤ 1000 ∧ as = [.val (rTable CD CT) t, .val rStr z] ∧ res = (fun u => lackOf t (signs z) = none ∧ u = .val rNone ()) ∧ Z = fun er => ∃ s, lackOf t (signs z) = some s ∧ er = ⟨NL, [("letter", .str (Txt.lower s))]⟩
def cNeedRelayX (K : PySem.W.Frag) (CD CT NR NL : Addr) : CtrX := fun M N as res Z => M = N ∧ ∃ (t : Tb) (len : Nat) (x : Od), GoodT t len ∧ OdOk K x ∧ as = [.val (rTable CD CT) t, .val (rOd K) x] ∧ res = (fun u => relErr NR NL t x = none ∧ u = .val rNone ()) ∧ Z = fun er => relErr NR NL t x = some er
def cLeD (CD : Addr) : Ctr := fun _ as res => ∃ l1 l2 : List Int, l1.length = l2.length ∧ l1.length ≤ 1000 ∧ as = [.val (rDaily CD) l1, .val (rDaily CD) l2] ∧ res = (fun u => u = .val rBool (leD l1 l2))
def cLikeD (CD : Addr) : Ctr := fun _ as res => ∃ l1 l2 : List Int, l1.length = l2.length ∧ as = [.val (rDaily CD) l1, .val (rDaily CD) l2] ∧ res = (fun u => u = .val rNone ())
def cGetM (CD CT : Addr) : Ctr := fun _ as res => ∃ (t : Tb) (s : Str) (l : List Int), t.lookup s = some l ∧ as = [.val (rTable CD CT) t, .val rStr s] ∧ res = (fun u => u = .val (rDaily CD) l)
section
variable {P : Program} {w : World} {K : PySem.W.Frag} {mg : Str → Option Value} {base : Heap} {f f1 f2 f3 CD CT NT NR NL OL CR : Addr} {fd fd1 fd2 fd3 : FuncData} {tk tk2 : Tok}
theorem ok_is_relO (F : Fun K "is_relay" "is_relay" (top 46) f fd) (B : Bn mg) (g1 : mg "MOST_STEPS_ages22" = some (.int 12 tk)) (g2 : mg "LINKS" = some (.str "abcd" tk2)) : FnOk P w K mg base CX0 1 f fd ["thing"] (spC (cIsRelO K)) := by
  refine fn_mk F sc_is_relay (fun _ _ _ ⟨_, _, h, _⟩ => by rw [h]; rfl) fun cdv A outer s H E hr M as res ⟨x, hx, ha, hres⟩ => ?_
  subst ha hres
  cases x with
  | ty t =>
    refine ss_ify (N := fun _ => False) (tw_val (tw_or (t1 := true) (t2 := false) (tv_not (t1 := false) (tv_val (ev_isi B.isinstance (ev_var 0) (pe_tyn B.str (by decide +kernel)) (.ty "str") (fun x px => ⟨t, by subst px; exact ty_od (.ty t), hx⟩)))) fun h => by cases h)) (ss_retV ev_bool rfl) (fun _ z => z.elim)
  | str z =>
    have hz : z.length ≤ 1000 := hx
    refine ss_ifr (b := !(decide (1 ≤ (z.length : Int)) && decide ((z.length : Int) ≤ 12))) (tw_val (tw_or (t1 := false) (tv_not (t1 := true) (tv_val (ev_isi B.isinstance (ev_var 0) (pe_tyn B.str (by decide +kernel)) (.ty "str") (fun x px => ⟨_, by subst px; exact ty_od (.str z), kit_ty (by decide +kernel)⟩)))) fun _ =>
      tw_or1 (tv_not (tv_chain (f := fun i j => decide (i ≤ j)) (f' := fun i j => decide (i ≤ j)) op_le op_le ev_int (ev_lenS B.len (ev_odG (ev_var 0)) (by omega)) (fun _ => ev_gint g1))))) (fun h => ss_retV ev_bool ?_) (fun h => ?_)
    · show Ent.val rBool false = .val rBool (isRel z)
      unfold isRel
      rw [Bool.not_eq_true'] at h
      rw [h]; rfl
    · refine ss_retV (ev_is (ev_all B.all rfl (EFt.ev (ef_lc0 (g := fun c => inS c "ABCD") (own := [("step", 1)]) rfl sc_is_relay.nd (it_str (ev_odG (ev_var 0)) (by have e : z.length = z.cps.size := rfl; omega)) (blkOk_by (by kernel_rfl)) (by decide) (fun _ _ _ _ _ _ => tg_name 1 sc_is_relay.nd)
        (fun _ _ _ _ _ y hy => ev_is (ev_inS (ev_var 1) (ev_upper (ev_gstr g2) (by decide +kernel)) (mem_signs_size hy)) (by rw [upper_abcd]))))) (x' := isRel z) ?_) rfl
      unfold isRel
      rw [Bool.not_eq_false'] at h
      rw [h, List.all_map]; rfl
theorem ok_need_tableX (F : Fun K "need_daily_table" "need_daily_table" (top 40) f fd) (B : Bn mg) (Q : Kls K mg CD CT) (eNT : ErC0 K NT) (gNT : mg "NoTable" = some (.ref NT)) : FnOk P w K mg base (L2.CX P w) 1 f fd ["table"] (spX (cNeedTableX K CT NT)) := by
  refine fnX_mk F sc_need_table (fun _ _ _ _ _ ⟨_, _, _, _, _, _, _, _, h, _⟩ => by rw [h]; rfl) fun cdv A outer s H E hr M M' as res Z ⟨hM, α, R, x, t, b, ty, kit, ha, hres, hZ⟩ => ?_
  subst hM ha hres hZ
  exact sx_ifr (b := !b) (tv_not (tv_val (ev_isi B.isinstance (ev_var 0) (pe_own Q.mT) (.own CT) (fun x' px => ⟨t, by subst px; exact ty, kit⟩)))) (fun h => sx_raise0 rfl eNT gNT ⟨by simpa using h, rfl⟩) (fun h => SSt.x (ss_nil ⟨by simpa using h, rfl⟩))
theorem ok_need_linksX (F : Fun K "need_links" "DailyTable.need_links" (inClass (top 43) 6) f fd) (Q : Kls K mg CD CT) (eNL : ErC1 P w K mg base "NoLink" NL ["letter"]) : FnOk P w K mg base (L2.CX P w) 3 f fd ["self", "steps"] (spX (cNeedLinksX CD CT NL)) := by
  refine fnX_mk F sc_need_links (fun _ _ _ _ _ ⟨_, _, _, _, _, _, _, h, _⟩ => by rw [h]; rfl) fun cdv A outer s H E hr M M' as res Z ⟨hM, t, n, z, g, hu, hz, ha, hres, hZ⟩ => ?_
  subst hM ha hres hZ
  have hsz : z.cps.size ≤ 16777216 := by have e : z.length = z.cps.size := rfl; omega
  refine sx_cons (M1 := M) (Nn := fun _ => lackOf t (signs z) = none) (s1x_for (passes_of rfl) rfl (it_str (ev_var 1) hsz) (fun _ => tg_name 2 sc_need_links.nd) (fun _ i Γ' => Γ' = [.val (rTable CD CT) t, .val rStr z, .any] ∧ lackOf t ((signs z).take i) = none) (fun xs exs => ⟨[.val (rTable CD CT) t, .val rStr z, .any], ⟨.inr rfl, .inr rfl, .inl rfl, trivial⟩, rfl, rfl⟩) (fun xs i y Γi exs hz' hy ⟨eΓ, hl⟩ => ?_) (fun xs Γn exs ⟨_, hl⟩ => by subst exs; rw [List.take_length] at hl; exact hl)) (fun Γ' h => SSt.x (ss_nil ⟨h, rfl⟩))
  subst exs eΓ
  obtain ⟨f1, f2, f3, f4, f5, f6⟩ := up_facts y (hu y (List.mem_of_getElem? hy))
  have ff := find_first (p := fun s => !(t.lookup (Txt.lower s)).isSome) hy hl
  have low : ∀ {X : Cx} {M : Md} {Γ : List Ent} {e : Expr} {p q : Pos}, EV X M e Γ rStr y → EV X M e Γ rStr y := fun h => h
  refine sx_ifr (b := !(t.lookup (Txt.lower y)).isSome) (tv_cmp1 (ev_dnotin (hr.lt 1) (ev_lower (ev_var 2) (by rw [f2]; decide)) (ev_fld (ev_var 0) Q.t.cl Q.nL rfl))) (fun h => ?_) (fun h => SSt.x (ss_nilW (Γ' := [.val (rTable CD CT) t, .val rStr z, .any]) ⟨.inr rfl, .inr rfl, .inl rfl, trivial⟩ ⟨rfl, ff.2 h⟩))
  exact sx_raise1 (P := fun _ => True) rfl eNL hr (A := fun as => as = [.val rVl (.str (Txt.lower y))]) (ea_cons (ev_conv (S := rVl) (y := .str (Txt.lower y)) (ev_lower (ev_var 2) (by rw [f2]; decide)) fun _ _ r => r) ea_nil) (fun as e => ⟨[.str (Txt.lower y)], e, rfl, y, ff.1 h, rfl⟩) (by decide)
theorem ok_need_relayX (F : Fun K "need_relay" "need_relay" (top 47) f fd) (Q : Kls K mg CD CT) (D1 : DefC P w K mg base "is_relay" 1 f1 fd1 ["thing"] (cIsRelO K)) (D3 : MthXC P w K mg base CT "need_links" 3 fd3 ["self", "steps"] (cNeedLinksX CD CT NL)) (eNR : ErC0 K NR) (gNR : mg "NoRow" = some (.ref NR)) : FnOk P w K mg base (L2.CX P w) 4 f fd ["table", "relay"] (spX (cNeedRelayX K CD CT NR NL)) := by
  refine fnX_mk F sc_need_relay (fun _ _ _ _ _ ⟨_, _, _, _, _, _, h, _⟩ => by rw [h]; rfl) fun cdv A outer s H E hr M M' as res Z ⟨hM, t, len, x, g, hx, ha, hres, hZ⟩ => ?_
  subst hM ha hres hZ
  refine sx_ifr (b := !isRelO x) (tv_not (tv_val (ev_call D1 (hr.mono (by decide)) (ea_cons (ev_var 1) ea_nil) ⟨x, hx, rfl, rfl⟩))) (fun h => sx_raise0 rfl eNR gNR ?_) (fun h => ?_)
  · rw [Bool.not_eq_true'] at h
    cases x with
    | ty _ => rfl
    | str z => exact if_neg (by rw [show isRel z = false from h]; exact Bool.false_ne_true)
  · rw [Bool.not_eq_false'] at h
    cases x with
    | ty _ => cases h
    | str z =>
      have hz : isRel z = true := h
      have e : relErr NR NL t (.str z) = (lackOf t (signs z)).map fun s => ⟨NL, [("letter", .str (Txt.lower s))]⟩ := if_pos hz
      refine sx_exprP (M1 := M) (R := rNone) (P := fun _ => lackOf t (signs z) = none) (evx_methM (N := M) (ev_var 0) Q.t.cl D3 hr rfl (ea_cons (ev_odG (s := z) (ev_var 1)) ea_nil) (fun as ea => ⟨_, _, ⟨rfl, t, len, z, g, isRel_ups hz, hx, by rw [ea], rfl, rfl⟩, fun u ⟨hn, hu⟩ => ⟨(), hn, hu⟩, fun er ⟨s, h1, h2⟩ => by show relErr NR NL t (.str z) = some er; rw [e, h1, h2]; rfl⟩)) ?_
      exact fun _ hn => SSt.x (ss_nil ⟨by show relErr NR NL t (.str z) = none; rw [e, hn]; rfl, rfl⟩)
end
end My

namespace My
open PySem L2 RT
/-! ### links compared; age_bounds -/
def cBoundsX (K : PySem.W.Frag) (CD CT NT OL CR NR NL : Addr) : CtrX := fun M N as res Z => M = N ∧
  ((∃ (α β γ : Type) (R : Rp α) (S : Rp β) (U : Rp γ) (x : α) (y : β) (u : γ) (t : Value), TyR K R x t ∧ PySem.W.kitOne K t (.ref CT) = some false ∧ as = [.val R x, .val S y, .val U u] ∧ res = (fun _ => False) ∧ Z = fun er => er = ⟨NT, []⟩) ∨
   (∃ (β γ : Type) (S : Rp β) (U : Rp γ) (t1 : Tb) (y : β) (u : γ) (t : Value), TyR K S y t ∧ PySem.W.kitOne K t (.ref CT) = some false ∧ as = [.val (rTable CD CT) t1, .val S y, .val U u] ∧ res = (fun _ => False) ∧ Z = fun er => er = ⟨NT, []⟩) ∨
   (∃ (t1 t2 : Tb) (n1 n2 : Nat) (x : Od), GoodT t1 n1 ∧ GoodT t2 n2 ∧ OdOk K x ∧ as = [.val (rTable CD CT) t1, .val (rTable CD CT) t2, .val (rOd K) x] ∧ res = (fun u => boundsErr NT OL CR NR NL t1 n1 t2 n2 x = none ∧ u = .val (rPair (rTup rInt) (rTup rInt)) (agesO t1 n1 x, agesO t2 n1 x)) ∧ Z = fun er => boundsErr NT OL CR NR NL t1 n1 t2 n2 x = some er))
def cBounds (K : PySem.W.Frag) (CD CT : Addr) : Ctr := fun _ as res => ∃ (t1 t2 : Tb) (n : Nat) (z : Str), GoodT t1 n ∧ GoodT t2 n ∧ t2.map (·.1) = t1.map (·.1) ∧ crossOf t1 t2 = none ∧ Rel t1 z ∧ as = [.val (rTable CD CT) t1, .val (rTable CD CT) t2, .val (rOd K) (.str z)] ∧ res = (fun u => u = .val (rPair (rTup rInt) (rTup rInt)) (agesBy t1 n z, agesBy t2 n z))
section
variable {P : Program} {w : World} {K : PySem.W.Frag} {mg : Str → Option Value} {base : Heap} {f f1 f2 f3 f4 f5 CD CT NT NR NL OL CR : Addr} {fd fd1 fd2 fd3 fd4 fd5 fd6 fd7 : FuncData} {tk tk2 : Tok}
theorem sc_getM : FnScope ["self", "index"] ["self", "index"] (defScope (inClass (top 43) 3)) := ⟨rfl, rfl, rfl, by decide +kernel, rfl, by decide +kernel, by decide +kernel⟩
theorem ok_getM (F : Fun K "__getitem__" "DailyTable.__getitem__" (inClass (top 43) 3) f fd) (B : Bn mg) (Q : Kls K mg CD CT) : FnOk P w K mg base CX0 1 f fd ["self", "index"] (spC (cGetM CD CT)) := by
  refine fn_mk F sc_getM (fun _ _ _ ⟨_, _, _, _, h, _⟩ => by rw [h]; rfl) fun cdv A outer s H E hr M as res ⟨t, s, l, hl, ha, hres⟩ => ?_
  subst ha hres
  refine ss_ifn (tw_val (tw_or (t1 := false) (tv_not (t1 := true) (tv_val (ev_isi B.isinstance (ev_var 1) (pe_tyn B.str (by decide +kernel)) (.ty "str") (fun x px => ⟨_, ty_str, kit_ty (by decide +kernel)⟩)))) fun _ => tw_or1 (tv_is (tv_cmp1 (ev_dnotin (hr.lt 1) (ev_var 1) (ev_fld (ev_var 0) Q.t.cl Q.nL rfl))) (by rw [hl]; rfl)))) ?_
  exact ss_retV (ev_dget (hr.lt 1) (ev_fld (ev_var 0) Q.t.cl Q.nL rfl) (ev_var 1) hl) rfl
theorem sc_need_like : FnScope ["self", "other"] ["self", "other"] (defScope (inClass (top 25) 5)) := ⟨rfl, rfl, rfl, by decide +kernel, rfl, by decide +kernel, by decide +kernel⟩
theorem ok_need_like (F : Fun K "need_like" "Daily.need_like" (inClass (top 25) 5) f fd) (Q : Kls K mg CD CT) (D1 : PrpC P w K mg base CD "length" 1 fd1 ["self"] (cDLen CD)) : FnOk P w K mg base CX0 3 f fd ["self", "other"] (spC (cLikeD CD)) := by
  refine fn_mk F sc_need_like (fun _ _ _ ⟨_, _, _, h, _⟩ => by rw [h]; rfl) fun cdv A outer s H E hr M as res ⟨l1, l2, hl, ha, hres⟩ => ?_
  subst ha hres
  exact ss_ifn (tv_is (tv_cmp1 (ev_neI (ev_prop (ev_var 1) Q.d.cl D1 (hr.mono (by decide)) ⟨l2, rfl, rfl⟩) (ev_prop (ev_var 0) Q.d.cl D1 (hr.mono (by decide)) ⟨l1, rfl, rfl⟩))) (by rw [hl]; simp)) (ss_nil rfl)
theorem sc_leD : FnScope ["self", "other", "one", "two"] ["self", "other"] (defScope (inClass (top 25) 11)) := ⟨rfl, rfl, rfl, by decide +kernel, rfl, by decide +kernel, by decide +kernel⟩
theorem ok_leD (F : Fun K "__le__" "Daily.__le__" (inClass (top 25) 11) f fd) (B : Bn mg) (Q : Kls K mg CD CT) (D1 : MthC P w K mg base CD "need_like" 3 fd1 ["self", "other"] (cLikeD CD)) : FnOk P w K mg base CX0 4 f fd ["self", "other"] (spC (cLeD CD)) := by
  refine fn_mk F sc_leD (fun _ _ _ ⟨_, _, _, _, h, _⟩ => by rw [h]; rfl) fun cdv A outer s H E hr M as res ⟨l1, l2, hl, hz, ha, hres⟩ => ?_
  subst ha hres
  refine ss_expr (ev_meth (S := rNone) (y := ()) (ev_var 0) Q.d.cl D1 hr rfl (ea_cons (ev_var 1) ea_nil) ⟨l1, l2, hl, rfl, rfl⟩) ?_
  refine ss_retV (ev_is (ev_all B.all rfl (EFt.ev (ef_lc0 (g := fun p : Int × Int => decide (p.1 ≤ p.2)) (own := [("one", 2), ("two", 3)]) rfl sc_leD.nd (it_zip B.zip (ev_fld (ev_var 0) Q.d.cl Q.nE rfl) (ev_fld (ev_var 1) Q.d.cl Q.nE rfl) sk_tup sk_tup (by omega)) (blkOk_by (by kernel_rfl)) (by decide) (fun _ _ _ _ _ _ => tg_pair 2 3 rfl sc_leD.nd)
    (fun _ _ _ _ _ y hy => ev_le (ev_var 2) (ev_var 3))))) (x' := leD l1 l2) ?_) rfl
  unfold leD
  rw [List.all_map]; rfl
theorem sc_bounds : FnScope ["quick", "slow", "relay", "letter"] ["quick", "slow", "relay"] (defScope (top 50)) := ⟨rfl, rfl, rfl, by decide +kernel, rfl, by decide +kernel, by decide +kernel⟩
theorem join_ne {t1 t2 : Tb} {n1 n2 : Nat} (g1 : GoodT t1 n1) (g2 : GoodT t2 n2) : (!(Txt.join "" (t2.map (·.1)) == Txt.join "" (t1.map (·.1)))) = !decide (t2.map (·.1) = t1.map (·.1)) := by
  congr 1
  by_cases e : t2.map (·.1) = t1.map (·.1)
  · rw [e, decide_eq_true rfl]; exact beq_self_eq_true _
  · rw [decide_eq_false e]
    refine beq_eq_false_iff_ne.mpr fun z => e ?_
    rw [← signs_join (ss := t2.map (·.1)) fun s hs => (g2.one hs).1, z, signs_join fun s hs => (g1.one hs).1]
theorem keys_lookM {t1 t2 : Tb} (h : t2.map (·.1) = t1.map (·.1)) {s : Str} (h1 : (t1.lookup s).isSome = true) : (t2.lookup s).isSome = true := by
  obtain ⟨l, e⟩ := Option.isSome_iff_exists.mp h1
  exact lookup_some (by rw [h]; exact mem_keys e)
theorem rel_keys {t1 t2 : Tb} (h : t2.map (·.1) = t1.map (·.1)) {z : Str} (r : Rel t1 z) : Rel t2 z := ⟨fun s hs => ⟨(r.up s hs).1, keys_lookM h (r.up s hs).2⟩, r.pos, r.len⟩
theorem ok_boundsX (F : Fun K "age_bounds" "age_bounds" (top 50) f fd) (B : Bn mg) (Q : Kls K mg CD CT) (eNT : ErC0 K NT) (gNT : mg "NoTable" = some (.ref NT)) (eOL : ErC0 K OL) (gOL : mg "OtherLength" = some (.ref OL)) (eCR : ErC1 P w K mg base "Crossed" CR ["letter"]) (D1 : DefXC P w K mg base "need_daily_table" 1 f1 fd1 ["table"] (cNeedTableX K CT NT)) (D2 : PrpC P w K mg base CT "letters" 1 fd2 ["self"] (cLetters CD CT)) (D3 : PrpC P w K mg base CT "length" 3 fd3 ["self"] (cTLen CD CT)) (D4 : SubC P w K mg base CT 1 fd4 ["self", "index"] (cGetM CD CT)) (D5 : LeqC P w K mg base CD 4 fd5 ["self", "other"] (cLeD CD)) (D6 : DefXC P w K mg base "need_relay" 4 f4 fd6 ["table", "relay"] (cNeedRelayX K CD CT NR NL)) (D7 : DefC P w K mg base "ages_by" 5 f5 fd7 ["table", "relay"] (cAgesBy CD CT)) : FnOk P w K mg base (L2.CX P w) 6 f fd ["quick", "slow", "relay"] (spX (cBoundsX K CD CT NT OL CR NR NL)) := by
  refine fnX_mk F sc_bounds (fun M M' as res Z h => ?_) fun cdv A outer s H E hr M M' as res Z ⟨hM, hcase⟩ => ?_
  · rcases h.2 with ⟨_, _, _, _, _, _, _, _, _, _, _, _, h, _⟩ | ⟨_, _, _, _, _, _, _, _, _, _, h, _⟩ | ⟨_, _, _, _, _, _, _, _, h, _⟩ <;> rw [h] <;> rfl
  subst hM
  have good : ∀ {Γ : List Ent} {e : Expr} {p q q2 : Pos} {X : Cx}, True := trivial
  rcases hcase with ⟨α, β, γ, R, S, U, x, y, u, t, ty, kit, ha, hres, hZ⟩ | ⟨β, γ, S, U, t1, y, u, t, ty, kit, ha, hres, hZ⟩ | ⟨t1, t2, n1, n2, x, g1, g2, hx, ha, hres, hZ⟩
  · subst ha hres hZ
    exact sx_expr (R := rNone) (evx_callM D1 (hr.mono (by decide)) (ea_cons (ev_var 0) ea_nil) (fun as ea => ⟨_, _, ⟨rfl, α, R, x, t, false, ty, kit, ea, rfl, rfl⟩, fun u h => (by cases h.1), fun z h => h.2⟩))
  · subst ha hres hZ
    refine sx_exprP (M1 := M) (R := rNone) (P := fun _ => True) (evx_callM (M1 := M) D1 (hr.mono (by decide)) (ea_cons (ev_var 0) ea_nil) (fun as ea => ⟨_, _, ⟨rfl, _, rTable CD CT, t1, _, true, ty_obj Q.t, kit_self, ea, rfl, rfl⟩, fun u h => ⟨(), trivial, h.2⟩, fun z h => (by cases h.1)⟩)) fun _ _ => ?_
    exact sx_ify (tw_val (tw_or (t1 := true) (t2 := false) (tv_not (t1 := false) (tv_val (ev_isi B.isinstance (ev_var 1) (pe_own Q.mT) (.own CT) (fun x' px => ⟨t, by subst px; exact ty, kit⟩)))) fun h => by cases h)) (sx_raise0 rfl eNT gNT rfl)
  · subst ha hres hZ
    refine sx_exprP (M1 := M) (R := rNone) (P := fun _ => True) (evx_callM (M1 := M) D1 (hr.mono (by decide)) (ea_cons (ev_var 0) ea_nil) (fun as ea => ⟨_, _, ⟨rfl, _, rTable CD CT, t1, _, true, ty_obj Q.t, kit_self, ea, rfl, rfl⟩, fun u h => ⟨(), trivial, h.2⟩, fun z h => (by cases h.1)⟩)) fun _ _ => ?_
    refine sx_ifr (b := !decide (t2.map (·.1) = t1.map (·.1))) (tw_val (tw_or (t1 := false) (tv_not (t1 := true) (tv_val (ev_isi B.isinstance (ev_var 1) (pe_own Q.mT) (.own CT) (fun x px => ⟨_, ty_obj Q.t, kit_self⟩)))) fun _ =>
      tw_or1 (tv_is (tv_cmp1 (ev_neS (ev_prop (ev_var 1) Q.t.cl D2 (hr.mono (by decide)) ⟨t2, n2, g2, rfl, rfl⟩) (ev_prop (ev_var 0) Q.t.cl D2 (hr.mono (by decide)) ⟨t1, n1, g1, rfl, rfl⟩))) (join_ne g1 g2)))) (fun h => sx_raise0 rfl eNT gNT (if_neg (by simpa using h))) (fun h => ?_)
    have hk : t2.map (·.1) = t1.map (·.1) := by simpa using h
    refine sx_ifr (b := !decide (n2 = n1)) (tv_is (tv_cmp1 (ev_neI (ev_prop (ev_var 1) Q.t.cl D3 (hr.mono (by decide)) ⟨t2, n2, g2, rfl, rfl⟩) (ev_prop (ev_var 0) Q.t.cl D3 (hr.mono (by decide)) ⟨t1, n1, g1, rfl, rfl⟩))) (by congr 1; exact decide_eq_decide.mpr ⟨fun h => by omega, fun h => by omega⟩)) (fun h => sx_raise0 rfl eOL gOL (by
      show boundsErr NT OL CR NR NL t1 n1 t2 n2 x = _
      unfold boundsErr
      rw [if_pos hk, if_neg (by simpa using h)])) (fun h => ?_)
    have hn : n2 = n1 := by simpa using h
    subst hn
    have eb : boundsErr NT OL CR NR NL t1 n2 t2 n2 x = match crossOf t1 t2 with | some s => some ⟨CR, [("letter", .str s)]⟩ | none => relErr NR NL t1 x := by unfold boundsErr; rw [if_pos hk, if_pos rfl] <;> cases crossOf t1 t2 <;> rfl
    have hks : signs (Txt.join "" (t1.map (·.1))) = t1.map (·.1) := signs_join fun s hs => (g1.one hs).1
    have hsz : (Txt.join "" (t1.map (·.1))).cps.size ≤ 16777216 := by
      have h3 := congrArg List.length hks
      rw [len_signs, List.length_map] at h3
      have h4 : (Txt.join "" (t1.map (·.1))).length = (Txt.join "" (t1.map (·.1))).cps.size := rfl
      have := g1.sum
      omega
    refine sx_cons (M1 := M) (Nn := fun Γ' => Γ' = [.val (rTable CD CT) t1, .val (rTable CD CT) t2, .val (rOd K) x, .any] ∧ crossOf t1 t2 = none) (s1x_for (passes_of rfl) rfl (it_strE (ev_prop (ev_var 0) Q.t.cl D2 (hr.mono (by decide)) ⟨t1, n2, g1, rfl, rfl⟩) hsz hks) (fun _ => tg_name 3 sc_bounds.nd) (fun xs i Γ' => Γ' = [.val (rTable CD CT) t1, .val (rTable CD CT) t2, .val (rOd K) x, .any] ∧ ((t1.map (·.1)).take i).find? (fun s => !leD ((t1.lookup s).getD []) ((t2.lookup s).getD [])) = none) (fun xs exs => ⟨[.val (rTable CD CT) t1, .val (rTable CD CT) t2, .val (rOd K) x, .any], ⟨.inr rfl, .inr rfl, .inr rfl, .inl rfl, trivial⟩, rfl, rfl⟩) (fun xs i y Γi exs hz' hy ⟨eΓ, hl⟩ => ?_) (fun xs Γn exs ⟨e, hl⟩ => by subst exs; exact ⟨e, by rw [List.take_length] at hl; exact hl⟩)) (fun Γ' ⟨eΓ, hc⟩ => ?_)
    · subst exs eΓ
      have ff := find_first hy hl
      have hm1 := List.mem_of_getElem? hy
      obtain ⟨l1, e1⟩ := Option.isSome_iff_exists.mp (lookup_some hm1)
      obtain ⟨l2, e2⟩ := Option.isSome_iff_exists.mp (lookup_some (l := t2) (s := y) (by rw [hk]; exact hm1))
      obtain ⟨q1, q2⟩ := g1.good y l1 e1
      obtain ⟨q3, q4⟩ := g2.good y l2 e2
      have := q1.len
      refine sx_ifr (b := !leD ((t1.lookup y).getD []) ((t2.lookup y).getD [])) (tv_not (tv_cmp1 (ev_leOwn (x := l1) (y := l2) (ev_subOwn (ev_var 0) (ev_var 3) D4 (hr.mono (by decide)) ⟨t1, y, l1, e1, rfl, rfl⟩) (ev_subOwn (ev_var 1) (ev_var 3) D4 (hr.mono (by decide)) ⟨t2, y, l2, e2, rfl, rfl⟩) D5 hr ⟨l1, l2, by omega, by omega, rfl, by rw [e1, e2]; rfl⟩))) (fun h => ?_) (fun h => SSt.x (ss_nilW (Γ' := [.val (rTable CD CT) t1, .val (rTable CD CT) t2, .val (rOd K) x, .any]) ⟨.inr rfl, .inr rfl, .inr rfl, .inl rfl, trivial⟩ ⟨rfl, ff.2 h⟩))
      refine sx_raise1 (P := fun _ => True) rfl eCR (hr.mono (by decide)) (A := fun as => as = [.val rVl (.str y)]) (ea_cons (ev_conv (R := rStr) (x := y) (S := rVl) (y := .str y) (ev_var 3) fun _ _ r => r) ea_nil) (fun as e => ⟨[.str y], e, rfl, ?_⟩) (by decide)
      show boundsErr NT OL CR NR NL t1 n2 t2 n2 x = _
      rw [eb, show crossOf t1 t2 = some y from ff.1 h]
      rfl
    · subst eΓ
      rw [hc] at eb
      have eb' : boundsErr NT OL CR NR NL t1 n2 t2 n2 x = relErr NR NL t1 x := eb
      refine sx_exprP (M1 := M) (R := rNone) (P := fun _ => relErr NR NL t1 x = none) (evx_callM (M1 := M) D6 (hr.mono (by decide)) (ea_cons (ev_var 0) (ea_cons (ev_var 2) ea_nil)) (fun as ea => ⟨_, _, ⟨rfl, t1, n2, x, g1, hx, ea, rfl, rfl⟩, fun u h => ⟨(), h.1, h.2⟩, fun z h => eb'.trans h⟩)) fun _ hn => ?_
      cases x with
      | ty t => cases hn
      | str z =>
        have hz : isRel z = true := by
          cases e : isRel z with
          | true => rfl
          | false =>
            have e2 : relErr NR NL t1 (.str z) = some ⟨NR, []⟩ := if_neg (by rw [e]; exact Bool.false_ne_true)
            rw [e2] at hn; cases hn
        have e2 : relErr NR NL t1 (.str z) = (lackOf t1 (signs z)).map fun s => ⟨NL, [("letter", .str (Txt.lower s))]⟩ := if_pos hz
        have hl : lackOf t1 (signs z) = none := by rw [e2] at hn; simpa using hn
        have r1 := rel_of hz hl
        exact SSt.x (ss_retV (ev_pair (ea_cons (ev_call D7 hr (ea_cons (ev_var 0) (ea_cons (ev_odG (s := z) (ev_var 2)) ea_nil)) ⟨t1, n2, z, g1, r1, rfl, rfl⟩) (ea_cons (ev_call D7 hr (ea_cons (ev_var 1) (ea_cons (ev_odG (s := z) (ev_var 2)) ea_nil)) ⟨t2, n2, z, g2, rel_keys hk r1, rfl, rfl⟩) ea_nil))) ⟨eb'.trans hn, rfl⟩)
theorem ok_bounds (F : Fun K "age_bounds" "age_bounds" (top 50) f fd) (DX : DefXC P w K mg base "age_bounds" 6 f fd ["quick", "slow", "relay"] (cBoundsX K CD CT NT OL CR NR NL)) : FnOk P w K mg base CX0 6 f fd ["quick", "slow", "relay"] (spC (cBounds K CD CT)) := by
  refine fn_good DX.ok fun M as res ⟨t1, t2, n, z, g1, g2, hk, hc, r, ha, hres⟩ => ?_
  subst hres
  obtain ⟨z1, z2⟩ := rel_is r
  have e2 : relErr NR NL t1 (.str z) = none := by
    have e : relErr NR NL t1 (.str z) = (lackOf t1 (signs z)).map fun s => ⟨NL, [("letter", .str (Txt.lower s))]⟩ := if_pos z1
    rw [e, z2]; rfl
  have eb : boundsErr NT OL CR NR NL t1 n t2 n (.str z) = none := by
    unfold boundsErr
    rw [if_pos hk, if_pos rfl, hc]
    exact e2
  refine ⟨_, _, ⟨rfl, .inr (.inr ⟨t1, t2, n, n, .str z, g1, g2, by have := r.len; show z.length ≤ 1000; omega, ha, rfl, rfl⟩)⟩, fun er h => ?_, fun u h => h.2⟩
  rw [eb] at h; cases h
end
end My

namespace My
open PySem L2 RT
/-! ### links between links -/
/-- l is never later than m -/
def LeL (l m : List Int) : Prop := l.length = m.length ∧ ∀ i : Nat, i < l.length → l.getD i 0 ≤ m.getD i 0
theorem LeL.lead {l m : List Int} (h : LeL l m) (h0 : 0 < l.length) (n : Int) : lLead l n ≤ lLead m n := by
  unfold lLead
  rw [← h.1]
  obtain ⟨e1, e2, e3⟩ := emod_facts n (show (0 : Int) < l.length by omega)
  have := h.2 (n % l.length).toNat (by omega)
  omega
theorem LeL.back {l m : List Int} (h : LeL l m) (gl : Good l) (gm : Good m) (ml : Mono l) (mm : Mono m) (n : Int) : ledBack m n ≤ ledBack l n :=
  (galois gl ml _ n).mpr (Int.le_trans (h.lead gl.pos _) ((galois gm mm _ n).mp (Int.le_refl _)))
theorem back_mono {l : List Int} (g : Good l) (h : Mono l) {a b : Int} (hab : a ≤ b) : ledBack l a ≤ ledBack l b :=
  (galois g h _ b).mpr (Int.le_trans ((galois g h _ a).mp (Int.le_refl _)) hab)
theorem LeL.trans {l m k : List Int} (h : LeL l m) (h2 : LeL m k) : LeL l k := ⟨h.1.trans h2.1, fun i hi => Int.le_trans (h.2 i hi) (h2.2 i (by rw [← h.1]; exact hi))⟩
/-- each link of t is never later than u's -/
def LeT (t u : Tb) : Prop := ∀ (s : Str) (l : List Int), t.lookup s = some l → ∃ m, u.lookup s = some m ∧ LeL l m
theorem led_le {t u : Tb} {n : Nat} (gt : GoodT t n) (gu : GoodT u n) (mt : MonoT t) (mu : MonoT u) (h : LeT t u) : ∀ (ss : List Str) (a b : Int), (∀ s ∈ ss, (t.lookup (Txt.lower s)).isSome = true) → a ≤ b → led u ss a ≤ led t ss b
  | [], a, b, _, hab => hab
  | s :: ss, a, b, hs, hab => by
    obtain ⟨l, el⟩ := Option.isSome_iff_exists.mp (hs s List.mem_cons_self)
    obtain ⟨m, em, hlm⟩ := h _ l el
    have e1 : led u (s :: ss) a = led u ss (ledBack m a) := by unfold led; rw [List.foldl_cons, em]; rfl
    have e2 : led t (s :: ss) b = led t ss (ledBack l b) := by unfold led; rw [List.foldl_cons, el]; rfl
    rw [e1, e2]
    refine led_le gt gu mt mu h ss _ _ (fun q hq => hs q (List.mem_cons_of_mem _ hq)) ?_
    have gl := (gt.good _ l el).1
    have gm := (gu.good _ m em).1
    exact Int.le_trans (hlm.back gl gm (mt _ l el) (mu _ m em) a) (back_mono gl (mt _ l el) hab)
theorem mono_of {m : List Int} (h0 : 0 < m.length) (h : ∀ i : Nat, i + 1 < m.length → m.getD i 0 ≤ m.getD (i + 1) 0) (ht : m.getD (m.length - 1) 0 ≤ m.getD 0 0 + m.length) : Mono m := fun x => by
  unfold lLead
  have hL : (0 : Int) < m.length := by omega
  obtain ⟨e1, e2, e3⟩ := emod_facts x hL
  by_cases hx : x % m.length + 1 < m.length
  · have e : (x + 1) % m.length = x % m.length + 1 := by
      have e4 : x + 1 = (x % m.length + 1) + m.length * (x / m.length) := by omega
      have e5 : (x + 1) % (m.length : Int) = _ := congrArg (fun q => q % (m.length : Int)) e4
      rw [Int.add_mul_emod_self_left, Int.emod_eq_of_lt (by omega) hx] at e5
      exact e5
    have := h (x % m.length).toNat (by omega)
    rw [e, show (x % m.length + 1).toNat = (x % m.length).toNat + 1 by omega]
    omega
  · have e : (x + 1) % m.length = 0 := by
      have e4 : x + 1 = 0 + m.length * (x / m.length + 1) := by rw [Int.mul_add]; omega
      have e5 : (x + 1) % (m.length : Int) = _ := congrArg (fun q => q % (m.length : Int)) e4
      rw [Int.add_mul_emod_self_left] at e5
      exact e5.trans (Int.zero_emod _)
    rw [e, show (x % m.length).toNat = m.length - 1 by omega, show (0 : Int).toNat = 0 from rfl]
    omega
/-- each no later than a length behind the first -/
def capL (acc : List Int) : List Int := acc.map fun e => min e (acc.getD 0 0 + acc.length)
theorem capL_len (acc : List Int) : (capL acc).length = acc.length := by unfold capL; rw [List.length_map]
theorem capL_at (acc : List Int) {i : Nat} (h : i < acc.length) : (capL acc).getD i 0 = min (acc.getD i 0) (acc.getD 0 0 + acc.length) := by
  unfold capL
  have e : acc.getD i 0 = acc[i] := by rw [List.getD_eq_getElem?_getD, List.getElem?_eq_getElem h]; rfl
  rw [e, List.getD_eq_getElem?_getD, List.getElem?_map, List.getElem?_eq_getElem h]
  rfl
/-- what the loops of _law_slower and _law_middle keep of l's first k -/
structure Run (l acc : List Int) (most : Int) (k : Nat) : Prop where
  len : acc.length = k
  le : ∀ i : Nat, i < k → l.getD i 0 ≤ acc.getD i 0
  up : ∀ i : Nat, i + 1 < k → acc.getD i 0 ≤ acc.getD (i + 1) 0
  last : 0 < k → acc.getD (k - 1) 0 = most
theorem getD_snoc {l : List Int} {x : Int} {i : Nat} : (l ++ [x]).getD i 0 = if i < l.length then l.getD i 0 else if i = l.length then x else 0 := by
  rw [List.getD_eq_getElem?_getD, List.getD_eq_getElem?_getD]
  by_cases h : i < l.length
  · rw [if_pos h, List.getElem?_append_left h]
  · rw [if_neg h, List.getElem?_append_right (by omega)]
    by_cases h2 : i = l.length
    · rw [if_pos h2, h2, Nat.sub_self]; rfl
    · rw [if_neg h2, List.getElem?_eq_none (by simp; omega)]; rfl
theorem Run.step {l acc : List Int} {most x : Int} {k : Nat} (r : Run l acc most k) (h : l.getD k 0 ≤ max most x) : Run l (acc ++ [max most x]) (max most x) (k + 1) := by
  have hl := r.len
  refine ⟨by rw [List.length_append, hl]; rfl, fun i hi => ?_, fun i hi => ?_, fun _ => ?_⟩
  · rw [getD_snoc]
    by_cases e : i < acc.length
    · rw [if_pos e]; exact r.le i (by omega)
    · rw [if_neg e, if_pos (by omega), show i = k by omega]; exact h
  · rw [getD_snoc, getD_snoc, if_pos (by omega)]
    by_cases e : i + 1 < acc.length
    · rw [if_pos e]; exact r.up i (by omega)
    · rw [if_neg e, if_pos (by omega)]
      have := r.last (by omega)
      rw [show k - 1 = i by omega] at this
      omega
  · rw [getD_snoc, if_neg (by omega), if_pos (by omega)]
theorem mono_first {l : List Int} (g : Good l) (h : Mono l) {i : Nat} (hi : i < l.length) : l.getD i 0 ≤ l.getD 0 0 + l.length := by
  have h1 := lead_at g hi 0
  have h2 := lead_at g g.pos 1
  have h3 := h.le' (m := (i : Int) + l.length * 0) (n := ((0 : Nat) : Int) + l.length * 1) (by omega)
  rw [h1, h2] at h3
  omega
/-- l made slower: never earlier than l -/
structure Slow (l m : List Int) : Prop where
  le : LeL l m
  mono : Mono m
  good : Good m
theorem run_cap {l acc : List Int} {most b : Int} (g : Good l) (hm : Mono l) (r : Run l acc most l.length) (hb : acc.getD 0 0 ≤ b) (h1 : b + l.length ≤ 1000) : Slow l (capL acc) := by
  have hl := r.len
  have h0 := g.pos
  have le : LeL l (capL acc) := ⟨by rw [capL_len, hl], fun i hi => by
    rw [capL_at acc (by omega)]
    have e1 := r.le i hi
    have e2 := mono_first g hm hi
    have e3 := r.le 0 h0
    omega⟩
  refine ⟨le, mono_of (by rw [capL_len]; omega) (fun i hi => ?_) ?_, ⟨by rw [capL_len]; omega, by rw [capL_len, hl]; exact g.len, fun i x hx => ?_⟩⟩
  · rw [capL_len] at hi
    rw [capL_at acc (by omega), capL_at acc hi]
    have := r.up i (by omega)
    omega
  · rw [capL_len, capL_at acc (by omega), capL_at acc (by omega)]
    omega
  · have hi : i < (capL acc).length := (List.getElem?_eq_some_iff.mp hx).1
    have ex : (capL acc).getD i 0 = x := by rw [List.getD_eq_getElem?_getD, hx]; rfl
    rw [capL_len, hl] at hi
    have e1 := le.2 i hi
    rw [ex] at e1
    have e2 := g.at_ i (l.getD i 0) (by rw [List.getD_eq_getElem?_getD, List.getElem?_eq_getElem hi]; rfl)
    rw [capL_at acc (by omega)] at ex
    omega
theorem cap_le {l u acc : List Int} {most : Int} (gu : Good u) (hu : Mono u) (hlu : l.length = u.length) (r : Run l acc most l.length) (h : ∀ i : Nat, i < l.length → acc.getD i 0 ≤ u.getD i 0) : LeL (capL acc) u := by
  have hl := r.len
  refine ⟨by rw [capL_len, hl, hlu], fun i hi => ?_⟩
  rw [capL_len] at hi
  rw [capL_at acc hi]
  have := h i (by omega)
  omega
theorem getD_some {l : List Int} {i : Nat} (h : i < l.length) : l[i]? = some (l.getD i 0) := by
  rw [List.getD_eq_getElem?_getD, List.getElem?_eq_getElem h]; rfl
theorem leD_le {l m : List Int} (h : l.length = m.length) : leD l m = true ↔ LeL l m := by
  unfold leD
  rw [List.all_eq_true]
  refine ⟨fun a => ⟨h, fun i hi => ?_⟩, fun a p hp => ?_⟩
  · have e : (l.zip m)[i]? = some (l.getD i 0, m.getD i 0) := by
      rw [List.getElem?_zip_eq_some]
      exact ⟨getD_some hi, getD_some (h ▸ hi)⟩
    exact of_decide_eq_true (a _ (List.mem_of_getElem? e))
  · obtain ⟨i, hi⟩ := List.mem_iff_getElem?.mp hp
    rw [List.getElem?_zip_eq_some] at hi
    obtain ⟨e1, e2⟩ := hi
    have hlt : i < l.length := (List.getElem?_eq_some_iff.mp e1).1
    have := a.2 i hlt
    rw [List.getD_eq_getElem?_getD, List.getD_eq_getElem?_getD, e1, e2] at this
    exact decide_eq_true this
theorem LeL.eq {l m : List Int} (h1 : LeL l m) (h2 : LeL m l) : l = m := by
  apply List.ext_getElem?
  intro i
  by_cases hi : i < l.length
  · have a := h1.2 i hi
    have b := h2.2 i (h1.1 ▸ hi)
    rw [List.getD_eq_getElem?_getD, List.getD_eq_getElem?_getD, List.getElem?_eq_getElem hi, List.getElem?_eq_getElem (h1.1 ▸ hi)] at a b
    rw [List.getElem?_eq_getElem hi, List.getElem?_eq_getElem (h1.1 ▸ hi)]
    congr 1
    exact Int.le_antisymm a b
  · rw [List.getElem?_eq_none (by omega), List.getElem?_eq_none (by rw [← h1.1]; omega)]
theorem leD_eq {l m : List Int} (h : LeL l m) : leD m l = decide (m = l) := by
  by_cases e : m = l
  · rw [decide_eq_true e]
    exact (leD_le h.1.symm).mpr (by rw [e]; exact ⟨rfl, fun _ _ => Int.le_refl _⟩)
  · rw [decide_eq_false e]
    cases q : leD m l with
    | false => rfl
    | true => exact absurd (h.eq ((leD_le h.1.symm).mp q)).symm e
end My

namespace My
open PySem L2 RT
/-! ### the law's own helpers -/
def cCaught (P : Program) (w : World) (K : PySem.W.Frag) (mg : Str → Option Value) (base : Heap) (OE : Addr) : Ctr := fun M as res => ∃ oc : Oc, (∀ er, oc = .err er → PySem.W.exmOne K (.ref er.cls) (.ref OE) = some true) ∧ as = [.val (rAct P w K mg base M 7) oc] ∧ res = (fun u => (oc = .ret ∧ u = .val rNone ()) ∨ ∃ er, oc = .err er ∧ u = .val rErr er)
def cWord (P : Program) (w : World) (K : PySem.W.Frag) (mg : Str → Option Value) (base : Heap) (OE NT OL NR : Addr) : Ctr := fun M as res => ∃ (er : Er) (b1 b2 b3 : Bool), PySem.W.exmOne K (.ref er.cls) (.ref OE) = some true ∧ ExcC K er.cls ∧ PySem.W.kitOne K (.ref er.cls) (.ref NT) = some b1 ∧ PySem.W.kitOne K (.ref er.cls) (.ref OL) = some b2 ∧ PySem.W.kitOne K (.ref er.cls) (.ref NR) = some b3 ∧ as = [.val (rAct P w K mg base M 7) (.err er)] ∧ res = (fun u => u = .val rStr (if b1 = true then "table" else if b2 = true then "length" else if b3 = true then "row" else "other"))
def noTys : List Value := [.type "NoneType", .type "int", .type "dict", .type "str", .type "tuple", .type "bool"]
def noRels : List Od := [.ty (.type "NoneType"), .ty (.type "int"), .str "", .str "a", .str "Aa", .str "E", .ty (.type "tuple"), .ty (.type "list"), .str (Txt.mul "A" 13), .str "A B", .ty (.type "bool")]
def cNoTable (K : PySem.W.Frag) : CtrS := fun M N as res => ∃ (st g c : Addr) (n : Nat), n ≤ 10 ^ 12 ∧ M = MdS st g c n ∧ N = MdS st g c (n + 1) ∧ as = [.adr st] ∧ res = (fun u => ∃ t, t ∈ noTys ∧ u = .val (rOd K) (.ty t))
def cNoRelay (K : PySem.W.Frag) : CtrS := fun M N as res => ∃ (st g c : Addr) (n : Nat), n ≤ 10 ^ 12 ∧ M = MdS st g c n ∧ N = MdS st g c (n + 1) ∧ as = [.adr st] ∧ res = (fun u => ∃ x, x ∈ noRels ∧ u = .val (rOd K) x)
def cLDaily (CD : Addr) : Ctr := fun _ as res => ∃ l : List Int, Good l ∧ Mono l ∧ as = [.val (rLst rInt) l] ∧ res = (fun u => u = .val (rDaily CD) l)
def cSlower : CtrS := fun M N as res => ∃ (st g c : Addr) (n : Nat) (l : List Int), n ≤ 10 ^ 12 ∧ M = MdS st g c n ∧ N = MdS st g c (n + 61) ∧ Good l ∧ Mono l ∧ l.getD 0 0 ≤ 600 ∧ as = [.adr st, .val (rLst rInt) l] ∧ res = (fun u => ∃ m, (Slow l m ∧ m.getD 0 0 ≤ 800) ∧ u = .val (rLst rInt) m)
def cMiddle : CtrS := fun M N as res => ∃ (st g c : Addr) (n : Nat) (l u : List Int), n ≤ 10 ^ 12 ∧ M = MdS st g c n ∧ N = MdS st g c (n + 60) ∧ Good l ∧ Mono l ∧ l.getD 0 0 ≤ 600 ∧ u.getD 0 0 ≤ 800 ∧ Slow l u ∧ as = [.adr st, .val (rLst rInt) l, .val (rLst rInt) u] ∧ res = (fun q => ∃ m, (Slow l m ∧ LeL m u) ∧ q = .val (rLst rInt) m)
theorem noRels_bad : ∀ x ∈ noRels, isRelO x = false := by decide +kernel
theorem noRels_ok {K : PySem.W.Frag} : ∀ x ∈ noRels, OdOk K x := fun x hx => by
  simp only [noRels, List.mem_cons, List.mem_nil_iff, or_false] at hx
  rcases hx with rfl | rfl | rfl | rfl | rfl | rfl | rfl | rfl | rfl | rfl | rfl
  case inr.inr.inl => show ("" : Str).length ≤ 1000; decide +kernel
  case inr.inr.inr.inl => show ("a" : Str).length ≤ 1000; decide +kernel
  case inr.inr.inr.inr.inl => show ("Aa" : Str).length ≤ 1000; decide +kernel
  case inr.inr.inr.inr.inr.inl => show ("E" : Str).length ≤ 1000; decide +kernel
  case inr.inr.inr.inr.inr.inr.inr.inr.inl => show (Txt.mul "A" 13).length ≤ 1000; decide +kernel
  case inr.inr.inr.inr.inr.inr.inr.inr.inr.inl => show ("A B" : Str).length ≤ 1000; decide +kernel
  all_goals (show PySem.W.kitOne K _ (.type "str") = some false; exact kit_ty (by decide +kernel))
section
variable {P : Program} {w : World} {K : PySem.W.Frag} {mg : Str → Option Value} {base : Heap} {f f1 f2 f3 f4 CD CT NT NR NL OL CR OE : Addr} {fd fd1 fd2 fd3 fd4 : FuncData} {tk tk2 : Tok}
theorem sc_caught : FnScope ["action", "found", "error"] ["action"] (defScope (top 58)) := ⟨rfl, rfl, rfl, by decide +kernel, rfl, by decide +kernel, by decide +kernel⟩
theorem ok_caught (F : Fun K "_law_caught" "_law_caught" (top 58) f fd) (gOE : mg "OrderError" = some (.ref OE)) : FnOk P w K mg base CX0 8 f fd ["action"] (spC (cCaught P w K mg base OE)) := by
  refine fn_mk F sc_caught (fun _ _ _ ⟨_, _, h, _⟩ => by rw [h]; rfl) fun cdv A outer s H E hr M as res ⟨oc, hm, ha, hres⟩ => ?_
  subst ha hres
  refine ss_set (R := rNone) (x := ()) 1 sc_caught.nd ev_none ?_
  exact ss_caught 2 1 0 sc_caught.nd rfl hm hr (fun e => ss_retV (ev_var 1) (.inl ⟨e, rfl⟩)) (fun er e => ss_retV (ev_var 1) (.inr ⟨er, e, rfl⟩)) gOE
theorem sc_word : FnScope ["action", "error"] ["action"] (defScope (top 73)) := ⟨rfl, rfl, rfl, by decide +kernel, rfl, by decide +kernel, by decide +kernel⟩
theorem ok_word (F : Fun K "_law_word" "_law_word" (top 73) f fd) (B : Bn mg) (gNT : mg "NoTable" = some (.ref NT)) (gOL : mg "OtherLength" = some (.ref OL)) (gNR : mg "NoRow" = some (.ref NR)) (D1 : DefC P w K mg base "_law_caught" 8 f1 fd1 ["action"] (cCaught P w K mg base OE)) : FnOk P w K mg base CX0 9 f fd ["action"] (spC (cWord P w K mg base OE NT OL NR)) := by -- of law k84: 50
  refine fn_mk F sc_word (fun _ _ _ ⟨_, _, _, _, _, _, _, _, _, h, _⟩ => by rw [h]; rfl) fun cdv A outer s H E hr M as res ⟨er, b1, b2, b3, hm, T, k1, k2, k3, ha, hres⟩ => ?_
  subst ha hres
  refine ss_setP (R := rErr) (P := fun y => y = er) 1 sc_word.nd (ev_callP D1 hr (ea_cons (ev_var 0) ea_nil) (fun as ea => ⟨_, ⟨.err er, fun er' e => by cases e; exact hm, ea, rfl⟩, fun u hu => by
    rcases hu with ⟨h, _⟩ | ⟨er', e, hu⟩
    · cases h
    · cases e; exact ⟨er, rfl, hu⟩⟩)) (fun y ey => ?_)
  subst ey
  refine ss_ifr (tv_val (ev_isiE B.isinstance (ev_var 1) T (pe_own gNT) (.own NT) k1)) (fun h => ss_retV ev_str (by rw [if_pos h])) (fun h1 => ?_)
  refine ss_ifr (tv_val (ev_isiE B.isinstance (ev_var 1) T (pe_own gOL) (.own OL) k2)) (fun h => ss_retV ev_str (by rw [if_neg (by rw [h1]; exact Bool.false_ne_true), if_pos h])) (fun h2 => ?_)
  refine ss_retV (ev_if (x := if b3 = true then ("row" : Str) else "other") (tv_val (ev_isiE B.isinstance (ev_var 1) T (pe_own gNR) (.own NR) k3)) (fun h => ev_is ev_str (by rw [if_pos h])) (fun h => ev_is ev_str (by rw [if_neg (by rw [h]; exact Bool.false_ne_true)]))) ?_
  rw [if_neg (by rw [h1]; exact Bool.false_ne_true), if_neg (by rw [h2]; exact Bool.false_ne_true)]
theorem sc_no_table : FnScope ["state"] ["state"] (defScope (top 69)) := ⟨rfl, rfl, rfl, by decide +kernel, rfl, by decide +kernel, by decide +kernel⟩
theorem ok_no_table (F : Fun K "_law_no_table" "_law_no_table" (top 69) f fd) (D2 : DefSC P w K mg base "_law_pick" 3 f2 fd2 ["state", "some"] cPick) : FnOk P w K mg base CX0 4 f fd ["state"] (spS (cNoTable K)) := by
  refine fnS_mk F sc_no_table (fun _ _ _ _ ⟨_, _, _, _, _, _, _, h, _⟩ => by rw [h]; rfl) fun cdv A outer s H E hr M N as res ⟨st, g, c, n, hn, hM, hN, ha, hres⟩ => ?_
  subst ha hres hM hN
  refine ss_ret (M1 := MdS st g c (n + 1)) (R := rOd K) (P := fun x => x ∈ noTys.map Od.ty) (ev_pick 0 rfl D2 hr (by omega) (xs := noTys.map Od.ty) (R := rOd K)
    (EFt.ev (ef_lst (ea_cons (ev_odT ev_none ty_none) (ea_cons (ev_odT (ev_int (i := 5)) ty_int) (ea_cons (ev_odT (ev_d0 knS rInt) ty_dicE) (ea_cons (ev_odT (ev_str (i := "a")) ty_str) (ea_cons (ev_odT (ev_tup (R := rInt) (xs := []) ea_nil) ty_tup) (ea_cons (ev_odT (ev_bool (i := true)) ty_bool) ea_same)))))) (by decide))) (by decide)) (fun x hx => ?_)
  obtain ⟨t, ht, rfl⟩ := List.mem_map.mp hx
  exact ⟨t, ht, rfl⟩
theorem sc_no_relay : FnScope ["state"] ["state"] (defScope (top 68)) := ⟨rfl, rfl, rfl, by decide +kernel, rfl, by decide +kernel, by decide +kernel⟩
theorem ok_no_relay (F : Fun K "_law_no_relay" "_law_no_relay" (top 68) f fd) (D2 : DefSC P w K mg base "_law_pick" 3 f2 fd2 ["state", "some"] cPick) : FnOk P w K mg base CX0 4 f fd ["state"] (spS (cNoRelay K)) := by
  refine fnS_mk F sc_no_relay (fun _ _ _ _ ⟨_, _, _, _, _, _, _, h, _⟩ => by rw [h]; rfl) fun cdv A outer s H E hr M N as res ⟨st, g, c, n, hn, hM, hN, ha, hres⟩ => ?_
  subst ha hres hM hN
  exact ss_ret (M1 := MdS st g c (n + 1)) (R := rOd K) (P := fun x => x ∈ noRels) (ev_pick 0 rfl D2 hr (by omega) (xs := noRels) (R := rOd K)
    (EFt.ev (ef_lst (ea_cons (ev_odT ev_none ty_none) (ea_cons (ev_odT (ev_int (i := 5)) ty_int) (ea_cons (ev_odS (ev_str (i := ""))) (ea_cons (ev_odS (ev_str (i := "a"))) (ea_cons (ev_odS (ev_str (i := "Aa"))) (ea_cons (ev_odS (ev_str (i := "E"))) (ea_cons (ev_odT (ev_tup (R := rStr) (xs := ["A"]) (ea_cons ev_str ea_nil)) ty_tup) (ea_cons (ev_odT (EFt.ev (ef_lst (R := rStr) (xs := ["A"]) (ea_cons ev_str ea_same))) ty_lst)
      (ea_cons (ev_odS (ev_repS (ev_str (i := "A")) (ev_int (i := 13)) (by decide +kernel) (by decide) (by decide))) (ea_cons (ev_odS (ev_str (i := "A B"))) (ea_cons (ev_odT (ev_bool (i := true)) ty_bool) ea_same))))))))))) (by decide))) (by decide)) (fun x hx => ⟨x, hx, rfl⟩)
theorem full_ridesM {l : List Int} (g : Good l) : 0 < ((upto 0 l.length).zip l).length ∧ ((upto 0 l.length).zip l).length ≤ 60 ∧ ∀ x ∈ (upto 0 l.length).zip l, x.1 ≤ x.2 := by
  have h1 := g.pos
  have h2 := g.len
  refine ⟨by rw [List.length_zip, upto_len]; omega, by rw [List.length_zip, upto_len]; omega, fun x hx => ?_⟩
  rw [zip_upto] at hx
  obtain ⟨m, hm2, rfl⟩ := List.mem_map.mp hx
  have h := mem_upto hm2
  have h3 := g.at_ m.toNat _ (getD_at h.1 (by omega))
  show m ≤ l.getD m.toNat 0
  omega
theorem sc_ldaily : FnScope ["ends", "at", "end"] ["ends"] (defScope (top 70)) := ⟨rfl, rfl, rfl, by decide +kernel, rfl, by decide +kernel, by decide +kernel⟩
theorem ok_ldaily (F : Fun K "_law_daily" "_law_daily" (top 70) f fd) (B : Bn mg) (D3 : MkrC P w K mg base "Daily" CD 4 fd3 ["self", "length", "rides"] φD iDaily) : FnOk P w K mg base CX0 6 f fd ["ends"] (spC (cLDaily CD)) := by
  refine fn_mk F sc_ldaily (fun _ _ _ ⟨_, _, _, h, _⟩ => by rw [h]; rfl) fun cdv A outer s H E hr M as res ⟨l, g, hm, ha, hres⟩ => ?_
  subst ha hres
  have h1 := g.pos
  have h2 := g.len
  obtain ⟨r1, r2, r3⟩ := full_ridesM g
  exact ss_retV (ev_is (ev_makeP (Py := fun y => y = endsOf l.length ((upto 0 l.length).zip l)) (A := fun as => as = [.val rInt (l.length : Int), .val rRid ((upto 0 l.length).zip l)]) D3 hr (ea_cons (ev_lenL B.len (ev_var 0)) (ea_cons (EFt.ev (EFt.imp (ef_lc0 (S := rPair rInt rInt) (g := fun r : Int × Int => r) (own := [("at", 1), ("end", 2)]) rfl sc_ldaily.nd (it_enum (T := rLst rInt) (x := l) (R := rInt) (xs := l) B.enumerate (ev_var 0) sk_lst (by omega)) (blkOk_by (by kernel_rfl)) (by decide) (fun _ _ _ _ _ _ => tg_pair 1 2 rfl sc_ldaily.nd)
    (fun _ _ _ _ _ x hx => ev_pair (ea_cons (ev_var 1) (ea_cons (ev_var 2) ea_nil)))) (fun y e => by rw [e, List.map_id']))) ea_nil)) (fun as e => ⟨l.length, _, ⟨by omega, by omega⟩, r1, r2, r3, e, rfl⟩)) (ends_self g hm)) rfl
end
end My

namespace My
open PySem L2 RT
section
variable {P : Program} {w : World} {K : PySem.W.Frag} {mg : Str → Option Value} {base : Heap} {f f1 f2 : Addr} {fd fd1 fd2 : FuncData}
theorem enum_at {l : List Int} {i : Nat} {x : Int × Int} (h : ((upto 0 l.length).zip l)[i]? = some x) : i < l.length ∧ x.2 = l.getD i 0 := by
  rw [List.getElem?_zip_eq_some] at h
  have hi := (List.getElem?_eq_some_iff.mp h.2).1
  exact ⟨hi, by rw [List.getD_eq_getElem?_getD, h.2]; rfl⟩
theorem enum_len (l : List Int) : ((upto 0 l.length).zip l).length = l.length := by rw [List.length_zip, upto_len]; omega
theorem sc_slower : FnScope ["state", "ends", "found", "most", "extra", "at", "end", "top"] ["state", "ends"] (defScope (top 71)) := ⟨rfl, rfl, rfl, by decide +kernel, rfl, by decide +kernel, by decide +kernel⟩
theorem ok_slower (F : Fun K "_law_slower" "_law_slower" (top 71) f fd) (B : Bn mg) (D1 : DefSC P w K mg base "_law_draw" 2 f1 fd1 ["state", "room"] cDraw) (D2 : DefSC P w K mg base "_law_pick" 3 f2 fd2 ["state", "some"] cPick) : FnOk P w K mg base CX0 4 f fd ["state", "ends"] (spS cSlower) := by
  refine fnS_mk F sc_slower (fun _ _ _ _ ⟨_, _, _, _, _, _, _, _, _, _, _, h, _⟩ => by rw [h]; rfl) fun cdv A outer s H E hr M N as res ⟨st, g, c, n, l, hn, hM, hN, gl, ml, hb0, ha, hres⟩ => ?_
  subst ha hres hM hN
  have hpos := gl.pos
  have hlen := gl.len
  have hl0 : 0 ≤ l.getD 0 0 := (gl.at_ 0 (l.getD 0 0) (getD_some hpos)).1
  refine ss_par2E 2 3 rfl sc_slower.nd (by decide) (EEt.F (R := rInt) (xs := []) (ef_lst ea_same)) (EEt.V (R := rInt) (x := 0) ev_int) (fun E1 E2 e1 e2 => ?_)
  subst e1 e2
  refine ss_setP (M1 := MdS st g c (n + 1)) (R := rInt) (P := fun x => 0 ≤ x ∧ x ≤ 60) 4 sc_slower.nd (EVt.imp (ev_pick 0 rfl D2 (hr.mono (by decide)) (by omega) (xs := [0, 1, 3, (l.length : Int)]) (EFt.ev (ef_lst (ea_cons ev_int (ea_cons ev_int (ea_cons ev_int (ea_cons (ev_lenL B.len (ev_var 1)) ea_same)))) (by simp))) (by simp)) (fun x hx => by simp at hx; omega)) (fun ex hex => ?_)
  refine ss_forT (R := rPair rInt rInt) (P := fun xs => xs = (upto 0 l.length).zip l) (M0 := MdS st g c (n + 1)) (fun k => MdS st g c (n + 1 + k)) (MdS st g c (n + 61)) PassesOwn.never rfl (it_enum B.enumerate (ev_var 1) sk_lst (by omega)) (fun _ => tg_pair 5 6 rfl sc_slower.nd)
    (fun xs i Γ' => ∃ (acc : List Int) (most : Int), Run l acc most i ∧ (0 < i → acc.getD 0 0 ≤ l.getD 0 0 + ex) ∧ (i = 0 → most = 0) ∧ Γ' = [.adr st, .val (rLst rInt) l, .own rInt acc, .val rInt most, .val rInt ex, .any, .any, .any])
    (fun xs e => ⟨_, Weak.refl _, [], 0, ⟨rfl, fun i h => by omega, fun i h => by omega, fun h => by omega⟩, fun h => by omega, fun _ => rfl, rfl⟩) (fun xs i x Γi hxs hz' hx ⟨acc, most, rn, hf, hi0, e⟩ => ?_) rfl (fun _ => rfl) (fun xs i e hi => Le.up (by rw [e, enum_len] at hi; omega)) (fun xs Γ' exs ⟨acc, most, rn, hf, _, e⟩ => ?_)
  · subst hxs e
    obtain ⟨hi, ex2⟩ := enum_at hx
    have hal := rn.len
    refine ss_setP (M1 := MdS st g c (n + 1 + i + 1)) (R := rInt) (P := fun y => ∃ d, (0 ≤ d ∧ d ≤ ex) ∧ y = max most (x.2 + d)) 3 sc_slower.nd (ev_max2P (M1 := MdS st g c (n + 1 + i)) (Pi := fun y => y = most) (Pj := fun y => ∃ d, (0 ≤ d ∧ d ≤ ex) ∧ y = x.2 + d) B.max rfl (ev_var 3) (ev_addP (M1 := MdS st g c (n + 1 + i)) (Pi := fun y => y = x.2) (Pj := fun d => 0 ≤ d ∧ d < ex + 1) (ev_var 6) (ev_draw 0 rfl D1 (hr.mono (by decide)) (by omega) (ev_add (ev_var 4) ev_int) (by omega)) (fun a d h1 h2 => ⟨d, by omega, by rw [h1]⟩)) (fun a b h1 ⟨d, h2, h3⟩ => ⟨d, h2, by rw [h1, h3]⟩)) (fun y ⟨d, hd, ey⟩ => ?_)
    subst ey
    refine ss_append 2 rfl (by omega) (ev_var 3) ?_
    refine ss_nilW (Γ' := [.adr st, .val (rLst rInt) l, .own rInt (acc ++ [max most (x.2 + d)]), .val rInt (max most (x.2 + d)), .val rInt ex, .any, .any, .any]) ⟨.inr rfl, .inr rfl, .inr rfl, .inr rfl, .inr rfl, .inl rfl, .inl rfl, .inl rfl, trivial⟩ ⟨acc ++ [max most (x.2 + d)], max most (x.2 + d), rn.step (by rw [ex2]; omega), fun _ => ?_, fun h => by omega, rfl⟩ (Le.up (by omega))
    rw [getD_snoc]
    by_cases h0 : 0 < acc.length
    · rw [if_pos h0]; exact hf (by omega)
    · have : i = 0 := by omega
      subst this
      rw [if_neg h0, if_pos (by omega), hi0 rfl]
      omega
  · subst exs e
    rw [enum_len] at rn hf
    have hal := rn.len
    refine ss_freeze 2 rfl ?_
    refine ss_set (R := rInt) (x := acc.getD 0 0 + l.length) 7 sc_slower.nd (ev_add (ev_ixL (ev_var 2) ev_int (atI_getD (by omega) (by omega) 0)) (ev_lenL B.len (ev_var 1))) ?_
    refine ss_ret (R := rLst rInt) (P := fun y => y = capL acc) (EFt.ev (EFt.imp (ef_lc0 (S := rInt) (g := fun e => min e (acc.getD 0 0 + l.length)) (own := [("end", 6)]) rfl sc_slower.nd (it_list (ev_var 2)) (blkOk_by (by kernel_rfl)) (by decide) (fun _ _ _ _ _ _ => tg_name 6 sc_slower.nd)
      (fun _ _ _ _ _ y hy => ev_min2 B.min rfl (ev_var 6) (ev_var 7))) (fun y e => by rw [e]; unfold capL; rw [hal]))) (fun y ey => ⟨y, by
        rw [ey]
        have := hf (by omega)
        exact ⟨run_cap gl ml rn this (by omega), by rw [capL_at acc (by omega)]; omega⟩, rfl⟩)
theorem sc_middle : FnScope ["state", "ends", "others", "found", "most", "one", "other", "top", "end"] ["state", "ends", "others"] (defScope (top 72)) := ⟨rfl, rfl, rfl, by decide +kernel, rfl, by decide +kernel, by decide +kernel⟩
theorem zip_at {l u : List Int} {i : Nat} {x : Int × Int} (h : (l.zip u)[i]? = some x) : i < l.length ∧ x.1 = l.getD i 0 ∧ x.2 = u.getD i 0 := by
  rw [List.getElem?_zip_eq_some] at h
  have hi := (List.getElem?_eq_some_iff.mp h.1).1
  exact ⟨hi, by rw [List.getD_eq_getElem?_getD, h.1]; rfl, by rw [List.getD_eq_getElem?_getD, h.2]; rfl⟩
theorem mono_up {l : List Int} (g : Good l) (h : Mono l) {i j : Nat} (hij : i ≤ j) (hj : j < l.length) : l.getD i 0 ≤ l.getD j 0 := by
  have h1 := lead_at g (show i < l.length by omega) 0
  have h2 := lead_at g hj 0
  have h3 := h.le' (m := (i : Int) + l.length * 0) (n := (j : Int) + l.length * 0) (by omega)
  omega
theorem ok_middle (F : Fun K "_law_middle" "_law_middle" (top 72) f fd) (B : Bn mg) (D1 : DefSC P w K mg base "_law_draw" 2 f1 fd1 ["state", "room"] cDraw) : FnOk P w K mg base CX0 4 f fd ["state", "ends", "others"] (spS cMiddle) := by
  refine fnS_mk F sc_middle (fun _ _ _ _ ⟨_, _, _, _, _, _, _, _, _, _, _, _, _, _, h, _⟩ => by rw [h]; rfl) fun cdv A outer s H E hr M N as res ⟨st, g, c, n, l, u, hn, hM, hN, gl, ml, hb0, hu0, sl, ha, hres⟩ => ?_
  subst ha hres hM hN
  have hpos := gl.pos
  have hlen := gl.len
  have hlu := sl.le.1
  have gu := sl.good
  have hzl : (l.zip u).length = l.length := by rw [List.length_zip]; omega
  have at0 : atI l 0 = some (l.getD 0 0) := atI_getD (i := 0) (by omega) (by omega) 0
  refine ss_par2E 3 4 rfl sc_middle.nd (by decide) (EEt.F (R := rInt) (xs := []) (ef_lst ea_same)) (EEt.V (R := rInt) (x := l.getD 0 0) (ev_ixL (ev_var 1) ev_int at0)) (fun E1 E2 e1 e2 => ?_)
  subst e1 e2
  refine ss_forT (R := rPair rInt rInt) (P := fun xs => xs = l.zip u) (M0 := MdS st g c n) (fun k => MdS st g c (n + k)) (MdS st g c (n + 60)) PassesOwn.never rfl (it_zip B.zip (ev_var 1) (ev_var 2) sk_lst sk_lst (by omega)) (fun _ => tg_pair 5 6 rfl sc_middle.nd)
    (fun xs i Γ' => ∃ (acc : List Int) (most : Int), Run l acc most i ∧ (∀ j : Nat, j < i → acc.getD j 0 ≤ u.getD j 0) ∧ (i = 0 → most = l.getD 0 0) ∧ Γ' = [.adr st, .val (rLst rInt) l, .val (rLst rInt) u, .own rInt acc, .val rInt most, .any, .any, .any, .any])
    (fun xs e => ⟨_, Weak.refl _, [], l.getD 0 0, ⟨rfl, fun i h => by omega, fun i h => by omega, fun h => by omega⟩, fun j h => by omega, fun _ => rfl, rfl⟩) (fun xs i x Γi hxs hz' hx ⟨acc, most, rn, hf, hi0, e⟩ => ?_) rfl (fun _ => rfl) (fun xs i e hi => Le.up (by rw [e, hzl] at hi; omega)) (fun xs Γ' exs ⟨acc, most, rn, hf, _, e⟩ => ?_)
  · subst hxs e
    obtain ⟨hi, ex1, ex2⟩ := zip_at hx
    have hal := rn.len
    have hle := sl.le.2 i hi
    have hbd : u.getD i 0 ≤ 2000 := by
      have := (gu.at_ i (u.getD i 0) (getD_some (by omega))).2
      omega
    have hbl := (gl.at_ i (l.getD i 0) (getD_some hi)).1
    refine ss_setP (M1 := MdS st g c (n + i + 1)) (R := rInt) (P := fun y => ∃ d, (0 ≤ d ∧ d ≤ x.2 - x.1) ∧ y = max most (x.1 + d)) 4 sc_middle.nd (ev_max2P (M1 := MdS st g c (n + i)) (Pi := fun y => y = most) (Pj := fun y => ∃ d, (0 ≤ d ∧ d ≤ x.2 - x.1) ∧ y = x.1 + d) B.max rfl (ev_var 4) (ev_addP (M1 := MdS st g c (n + i)) (Pi := fun y => y = x.1) (Pj := fun d => 0 ≤ d ∧ d < x.2 - x.1 + 1) (ev_var 5) (ev_draw 0 rfl D1 (hr.mono (by decide)) (by omega) (ev_add (ev_sub (ev_var 6) (ev_var 5)) ev_int) (by omega)) (fun a d h1 h2 => ⟨d, by omega, by rw [h1]⟩)) (fun a b h1 ⟨d, h2, h3⟩ => ⟨d, h2, by rw [h1, h3]⟩)) (fun y ⟨d, hd, ey⟩ => ?_)
    subst ey
    refine ss_append 3 rfl (by omega) (ev_var 4) ?_
    refine ss_nilW (Γ' := [.adr st, .val (rLst rInt) l, .val (rLst rInt) u, .own rInt (acc ++ [max most (x.1 + d)]), .val rInt (max most (x.1 + d)), .any, .any, .any, .any]) ⟨.inr rfl, .inr rfl, .inr rfl, .inr rfl, .inr rfl, .inl rfl, .inl rfl, .inl rfl, .inl rfl, trivial⟩ ⟨acc ++ [max most (x.1 + d)], max most (x.1 + d), rn.step (by rw [ex1]; omega), fun j hj => ?_, fun h => by omega, rfl⟩ (Le.up (by omega))
    rw [getD_snoc]
    by_cases h0 : j < acc.length
    · rw [if_pos h0]; exact hf j (by omega)
    · have : j = i := by omega
      subst this
      rw [if_neg h0, if_pos (by omega)]
      by_cases hj0 : j = 0
      · subst hj0
        rw [hi0 rfl]
        omega
      · have e1 := rn.last (by omega)
        have e2 := hf (j - 1) (by omega)
        have e3 := mono_up gu sl.mono (show j - 1 ≤ j by omega) (by omega)
        omega
  · subst exs e
    rw [hzl] at rn hf
    have hal := rn.len
    refine ss_freeze 3 rfl ?_
    refine ss_set (R := rInt) (x := acc.getD 0 0 + l.length) 7 sc_middle.nd (ev_add (ev_ixL (ev_var 3) ev_int (atI_getD (by omega) (by omega) 0)) (ev_lenL B.len (ev_var 1))) ?_
    refine ss_ret (R := rLst rInt) (P := fun y => y = capL acc) (EFt.ev (EFt.imp (ef_lc0 (S := rInt) (g := fun e => min e (acc.getD 0 0 + l.length)) (own := [("end", 8)]) rfl sc_middle.nd (it_list (ev_var 3)) (blkOk_by (by kernel_rfl)) (by decide) (fun _ _ _ _ _ _ => tg_name 8 sc_middle.nd)
      (fun _ _ _ _ _ y hy => ev_min2 B.min rfl (ev_var 8) (ev_var 7))) (fun y e => by rw [e]; unfold capL; rw [hal]))) (fun y ey => ⟨y, by
        rw [ey]
        have := hf 0 hpos
        exact ⟨run_cap gl ml rn (b := 800) (by omega) (by omega), cap_le gu sl.mono hlu rn hf⟩, rfl⟩)
end
end My

namespace My
open PySem L2 RT
/-! ### tables slower than others; letters -/
def keysOf (ds : Tb) : List Str := lows.filter fun s => (ds.lookup s).isSome
theorem tab_keys (ds : Tb) : (tabOf ds).map (·.1) = keysOf ds := by
  unfold tabOf keysOf
  rw [List.map_map]
  exact List.map_id' _
structure SlowT (ds us : Tb) : Prop where
  keys : us.map (·.1) = ds.map (·.1)
  slow : ∀ (s : Str) (l : List Int), ds.lookup s = some l → ∃ m, us.lookup s = some m ∧ Slow l m
theorem paired_dep {β : Type} {p : Str → β → Prop} : ∀ {l : List Str} {m : List (Str × β)}, Paired (fun x y => y.1 = x ∧ p x y.2) l m → m.map (·.1) = l ∧ ∀ q ∈ m, p q.1 q.2
  | _, _, .nil => ⟨rfl, (fun y h => (by cases h))⟩
  | _, _, .cons h t => by
    obtain ⟨a, b⟩ := paired_dep t
    refine ⟨by rw [List.map_cons, a, h.1], fun y hy => ?_⟩
    rcases List.mem_cons.mp hy with e | e
    · rw [e, h.1]; exact h.2
    · exact b y e
theorem slowT_of {ds us : Tb} (hk : us.map (·.1) = ds.map (·.1)) (h : ∀ q ∈ us, Slow ((ds.lookup q.1).getD []) q.2) : SlowT ds us := ⟨hk, fun s l hl => by
  obtain ⟨m, em⟩ := Option.isSome_iff_exists.mp (lookup_some (l := us) (s := s) (by rw [hk]; exact mem_keys hl))
  have := h (s, m) (lookup_mem em)
  dsimp only at this
  rw [hl] at this
  exact ⟨m, em, this⟩⟩
section
variable {ds us ms : Tb} {n : Nat} {z : Str}
theorem SlowT.back (h : SlowT ds us) {s : Str} {m : List Int} (hm : us.lookup s = some m) : ∃ l, ds.lookup s = some l ∧ Slow l m := by
  obtain ⟨l, el⟩ := Option.isSome_iff_exists.mp (lookup_some (l := ds) (s := s) (by rw [← h.keys]; exact mem_keys hm))
  obtain ⟨m', e, sl⟩ := h.slow s l el
  rw [hm] at e; cases e
  exact ⟨l, el, sl⟩
theorem SlowT.good (h : SlowT ds us) (g : GoodT ds n) : GoodT us n := ⟨fun e => g.ne (by have := h.keys; rw [e] at this; simpa using this.symm), by rw [h.keys]; exact g.nd, fun s hs => g.low s (by rw [← h.keys]; exact hs), fun s m hm => by
  obtain ⟨l, el, sl⟩ := h.back hm
  exact ⟨sl.good, by rw [← sl.le.1]; exact (g.good s l el).2⟩⟩
theorem SlowT.mono (h : SlowT ds us) : MonoT us := fun s m hm => let ⟨l, el, sl⟩ := h.back hm; sl.mono
theorem SlowT.le (h : SlowT ds us) : LeT ds us := fun s l hl => let ⟨m, e, sl⟩ := h.slow s l hl; ⟨m, e, sl.le⟩
theorem SlowT.keysOf (h : SlowT ds us) : keysOf us = keysOf ds := by
  unfold My.keysOf
  refine List.filter_congr fun s _ => ?_
  cases e : ds.lookup s with
  | some l => obtain ⟨m, em, _⟩ := h.slow s l e; rw [em]; rfl
  | none =>
    cases e2 : us.lookup s with
    | none => rfl
    | some m => obtain ⟨l, el, _⟩ := h.back e2; rw [e] at el; cases el
theorem SlowT.rel (h : SlowT ds us) (r : Rel ds z) : Rel us z := rel_keys h.keys r
theorem keysOf_mem {s : Str} (h : s ∈ keysOf ds) : ∃ l, ds.lookup s = some l := Option.isSome_iff_exists.mp (List.mem_filter.mp h).2
theorem cross_eq (g : GoodT ds n) (h : SlowT ds us) : crossOf (tabOf us) (tabOf ds) = ((keysOf ds).filter fun s => !decide ((us.lookup s).getD [] = (ds.lookup s).getD [])).head? := by
  unfold crossOf
  rw [tab_keys, h.keysOf, List.head?_filter]
  have key : ∀ ks : List Str, (∀ s ∈ ks, s ∈ keysOf ds) → ks.find? (fun s => !leD (((tabOf us).lookup s).getD []) (((tabOf ds).lookup s).getD [])) = ks.find? fun s => !decide ((us.lookup s).getD [] = (ds.lookup s).getD []) := by
    intro ks
    induction ks with
    | nil => intro _; rfl
    | cons s ks ih =>
      intro hs
      obtain ⟨l, el⟩ := keysOf_mem (hs s List.mem_cons_self)
      obtain ⟨m, em, sl⟩ := h.slow s l el
      rw [List.find?_cons, List.find?_cons, ih fun q hq => hs q (List.mem_cons_of_mem _ hq), tab_look g, tab_look (h.good g), el, em]
      show (match !leD m l with | true => _ | false => _) = match !decide (m = l) with | true => _ | false => _
      rw [leD_eq sl.le]
  exact key _ fun _ hs => hs
theorem cross_none (g : GoodT ds n) (h : SlowT ds us) : crossOf (tabOf ds) (tabOf us) = none := by
  unfold crossOf
  rw [tab_keys]
  refine List.find?_eq_none.mpr fun s hs => ?_
  obtain ⟨l, el⟩ := keysOf_mem hs
  obtain ⟨m, em, sl⟩ := h.slow s l el
  rw [tab_look g, tab_look (h.good g), el, em]
  show ¬ (!leD l m) = true
  rw [(leD_le sl.le.1).mpr sl.le]
  exact Bool.false_ne_true
theorem keys_tab (g : GoodT ds n) (h : SlowT ds us) : (tabOf us).map (·.1) = (tabOf ds).map (·.1) := by rw [tab_keys, tab_keys, h.keysOf]
theorem atI_agesM (gt : GoodT ds n) (r : Rel ds z) {j : Int} (h0 : 0 ≤ j) (h1 : j < n) : atI (lAges ds n z) j = some (j - led ds (signs z) j) := by
  rw [atI_getD h0 (by rw [len_lAges]; exact h1) 0, List.getD_eq_getElem?_getD, lAges_at gt r (by omega : j.toNat < n)]
  rw [show ((j.toNat : Nat) : Int) = j by omega]
  rfl
theorem led_between (g : GoodT ds n) (md : MonoT ds) (h : SlowT ds us) (hm : SlowT ds ms) (hle : LeT ms us) (r : Rel ds z) (j : Int) : led us (signs z) j ≤ led ms (signs z) j ∧ led ms (signs z) j ≤ led ds (signs z) j :=
  ⟨led_le (hm.good g) (h.good g) hm.mono h.mono hle _ _ _ (fun s hs => ((hm.rel r).up s hs).2) (Int.le_refl _), led_le g (hm.good g) md hm.mono hm.le _ _ _ (fun s hs => (r.up s hs).2) (Int.le_refl _)⟩
theorem map_look {β : Type} (g : List Int → β) (nd : (ds.map (·.1)).Nodup) : (ds.map (·.1)).map (fun s => (s, g ((ds.lookup s).getD []))) = ds.map fun p => (p.1, g p.2) := by
  rw [List.map_map]
  refine List.map_congr_left fun p hp => ?_
  have e : ∀ {l : Tb}, (l.map (·.1)).Nodup → p ∈ l → l.lookup p.1 = some p.2 := by
    intro l
    induction l with
    | nil => intro _ h; cases h
    | cons a l ih =>
      intro nd h
      rw [List.lookup_cons]
      rw [List.map_cons, List.nodup_cons] at nd
      rcases List.mem_cons.mp h with e | e
      · rw [e]; rw [beq_self_eq_true]
      · have ne : (p.1 == a.1) = false := by
          cases q : (p.1 == a.1) with
          | false => rfl
          | true => exact absurd (by rw [← eq_of_beq q]; exact List.mem_map_of_mem e) nd.1
        rw [ne]; exact ih nd.2 e
  show (p.1, g ((ds.lookup p.1).getD [])) = _
  rw [e nd hp]; rfl
end
theorem lk_tight {len : Int} (h : 0 < len ∧ len ≤ 60) {rs : Rt} (g : GoodRt rs) : ∀ (s : Str) (l : List Int), (lkOf len rs).lookup s = some l → l.getD 0 0 ≤ 600 := fun s l hl => by
  unfold lkOf at hl
  rw [lookup_map] at hl
  cases e : rs.lookup s with
  | none => rw [e] at hl; cases hl
  | some r =>
    rw [e] at hl
    cases hl
    have gr := g.good _ (lookup_mem e)
    have e0 : (lEnds len r).getD 0 0 = lEndAt len r 0 := by
      unfold lEnds
      rw [List.getD_eq_getElem?_getD, List.getElem?_map, upto_at (by omega)]
      rfl
    obtain ⟨q, hq⟩ : ∃ q, q ∈ r := List.exists_mem_of_length_pos gr.pos
    have h1 := minL_le (List.mem_map.mpr ⟨q, hq, rfl⟩ : _ ∈ r.map (fun q => (0 : Int) + (q.1 - 0) % len + q.2 - q.1))
    have h2 := Int.emod_lt_of_pos (q.1 - 0) h.1
    have h3 := gr.le q hq
    rw [e0]
    unfold lEndAt
    omega
/-! ### letters in their sequence -/
theorem srt1 : ∀ a ∈ lows, [a] = lows.filter fun s => decide (s ∈ [a]) := by decide +kernel
theorem srt2 : ∀ a ∈ lows, ∀ b ∈ lows, [a, b].Nodup → PyProof.Rows.sortedS [a, b] = true → [a, b] = lows.filter fun s => decide (s ∈ [a, b]) := by decide +kernel
theorem srt3 : ∀ a ∈ lows, ∀ b ∈ lows, ∀ c ∈ lows, [a, b, c].Nodup → PyProof.Rows.sortedS [a, b, c] = true → [a, b, c] = lows.filter fun s => decide (s ∈ [a, b, c]) := by decide +kernel
theorem srt4 : ∀ a ∈ lows, ∀ b ∈ lows, ∀ c ∈ lows, ∀ d ∈ lows, [a, b, c, d].Nodup → PyProof.Rows.sortedS [a, b, c, d] = true → [a, b, c, d] = lows.filter fun s => decide (s ∈ [a, b, c, d]) := by decide +kernel
theorem srt : ∀ ys : List Str, (∀ s ∈ ys, s ∈ lows) → ys.Nodup → PyProof.Rows.sortedS ys = true → ys = lows.filter fun s => decide (s ∈ ys)
  | [], _, _, _ => by decide +kernel
  | [a], h, _, _ => srt1 a (h a (by simp))
  | [a, b], h, nd, hs => srt2 a (h a (by simp)) b (h b (by simp)) nd hs
  | [a, b, c], h, nd, hs => srt3 a (h a (by simp)) b (h b (by simp)) c (h c (by simp)) nd hs
  | [a, b, c, d], h, nd, hs => srt4 a (h a (by simp)) b (h b (by simp)) c (h c (by simp)) d (h d (by simp)) nd hs
  | a :: b :: c :: d :: e :: r, h, nd, hs => by
    have := List.Nodup.length_le_of_subset nd (l₂ := lows) h
    have e4 : lows.length = 4 := rfl
    simp at this
    omega
theorem sorted_keys {ds : Tb} {n : Nat} (g : GoodT ds n) {ys : List Str} (hp : ys.Perm (ds.map (·.1))) (hs : PyProof.Rows.sortedS ys = true) : ys = keysOf ds := by
  rw [srt ys (fun s h => g.low s (hp.mem_iff.mp h)) (hp.nodup_iff.mpr g.nd) hs]
  refine List.filter_congr fun s _ => ?_
  by_cases h : s ∈ ds.map (·.1)
  · rw [decide_eq_true (hp.mem_iff.mpr h), lookup_some h]
  · rw [decide_eq_false fun z => h (hp.mem_iff.mp z)]
    cases e : ds.lookup s with
    | none => rfl
    | some l => exact absurd (mem_keys e) h
/-! ### letters that lack -/
theorem signs_catM (a b : Str) : signs (a ++ b) = signs a ++ signs b := by
  unfold signs
  rw [show (a ++ b : Str).cps = a.cps ++ b.cps from rfl, Array.toList_append, List.map_append]
def lacks (ds : Tb) : List Str := ups.filter fun s => !(ds.lookup (Txt.lower s)).isSome
theorem far_lack {ds : Tb} {n : Nat} (g : GoodT ds n) {z s0 s1 : Str} (r : Rel ds z) (h0 : s0 ∈ lacks ds) (h1 : s1 ∈ lacks ds) : isRel (toS 5 z ++ s0 ++ s1) = true ∧ lackOf (tabOf ds) (signs (toS 5 z ++ s0 ++ s1)) = some s0 := by
  have one : ∀ s ∈ ups, signs s = [s] := by decide +kernel
  obtain ⟨u0, l0⟩ := List.mem_filter.mp h0
  obtain ⟨u1, l1⟩ := List.mem_filter.mp h1
  have e : signs (toS 5 z ++ s0 ++ s1) = (signs z).take 5 ++ [s0] ++ [s1] := by rw [signs_catM, signs_catM, signs_to, one s0 u0, one s1 u1]
  have up : ∀ s ∈ signs (toS 5 z ++ s0 ++ s1), s ∈ ups := fun s hs => by
    rw [e] at hs
    simp only [List.mem_append, List.mem_singleton] at hs
    rcases hs with (hs | hs) | hs
    · exact (r.up s (List.mem_of_mem_take hs)).1
    · rw [hs]; exact u0
    · rw [hs]; exact u1
  constructor
  · unfold isRel
    have hl := congrArg List.length e
    rw [len_signs] at hl
    simp at hl
    rw [Bool.and_eq_true, Bool.and_eq_true, decide_eq_true_eq, decide_eq_true_eq, List.all_eq_true]
    exact ⟨⟨by omega, by omega⟩, fun s hs => (up_facts s (up s hs)).2.2.2.2.1⟩
  · unfold lackOf
    rw [e, List.append_assoc, List.find?_append]
    have e2 : ((signs z).take 5).find? (fun s => !((tabOf ds).lookup (Txt.lower s)).isSome) = none := List.find?_eq_none.mpr fun s hs => by
      rw [tab_look g, (r.up s (List.mem_of_mem_take hs)).2]; exact Bool.false_ne_true
    rw [e2, Option.none_or, List.singleton_append, List.find?_cons_of_pos (by rw [tab_look g]; exact l0)]
theorem told_tup2 {ns ms : List Int} (h : ∀ n ∈ ns, n.natAbs < 2 ^ 100) (h2 : ∀ n ∈ ms, n.natAbs < 2 ^ 100) (hl : ns.length ≤ 1000) (hl2 : ms.length ≤ 1000) : Told (.tuple [.tuple (ns.map PyData.int), .tuple (ms.map PyData.int)]) := by
  have hs : PyData.showable (.tuple (ns.map PyData.int)) = true := show_ints ns h
  have hs' : PyData.showable (.tuple (ms.map PyData.int)) = true := show_ints ms h2
  have hs2 : PyData.showable (.tuple [.tuple (ns.map PyData.int), .tuple (ms.map PyData.int)]) = true := by
    show (PyData.showable (.tuple (ns.map PyData.int)) && (PyData.showable (.tuple (ms.map PyData.int)) && true)) = true
    rw [hs, hs']; rfl
  have hw : wt (.tuple [.tuple (ns.map PyData.int), .tuple (ms.map PyData.int)]) = 2002 * ns.length + 2002 * ms.length + 34 := by
    show ((wtAll (ns.map PyData.int) + 10) + 2 + ((wtAll (ms.map PyData.int) + 10) + 2 + 0)) + 10 = _
    rw [wt_ints, wt_ints]
    omega
  refine ⟨?_, hs2, ?_, ?_, ?_⟩
  · show (PyData.canLayAll0 (ns.map PyData.int) && (PyData.canLayAll0 (ms.map PyData.int) && true)) = true
    rw [lay_ints, lay_ints]; rfl
  · show (PyData.hasDictAll (ns.map PyData.int) || (PyData.hasDictAll (ms.map PyData.int) || false)) = false
    rw [nodict_ints, nodict_ints]; rfl
  · show max (PyData.depthAll (ns.map PyData.int) + 1) (max (PyData.depthAll (ms.map PyData.int) + 1) 0) + 1 ≤ 60
    rw [depth0_ints, depth0_ints]; decide
  · have := wt_le _ hs2 (by rw [hw]; omega)
    rw [hw] at this
    rw [sizeLine_eq]
    omega
end My

namespace My
open PySem L2 RT
/-! ### k84: ages between -/
def lamQ : Str := ("law" : Str) ++ ".<locals>." ++ "<lambda>"
def cLawT (K : PySem.W.Frag) (PT : Addr) : Ctr := fun M as res => ∃ ns : List Int, M = MdT [(PT, lamQ)] Md0 ∧ ns.length ≤ 63 ∧ as = [.val (rScr K) ns] ∧ res = (fun u => u = .val rBool true)
theorem law_spT {K : PySem.W.Frag} {cc PT : Addr} {H : Hp} {a : Addr} {ns : List Int} (hl : ns.length ≤ 63) (tab : ∀ p ∈ ([(cc, PT)] : List (Addr × Addr)), H p.2 = some (.tbl #[])) (at_ : H a = none ∨ ∃ o, H a = some (.frz o (.lst (ns.map V.int)))) (hS : SqL K H a (ns.map V.int)) (hz : SzOk H) : spC (cLawT K PT) [.ref a] H (fun v _ => v = .bl true) E0 := by
  obtain ⟨o, s⟩ := okk_first (T := [(PT, lamQ)]) (fun p hp => ⟨(cc, PT), by simp, by rw [List.mem_singleton.mp hp]⟩) tab at_ hS hz
  exact ⟨MdT [(PT, lamQ)] Md0, _, [.val (rScr K) ns], _, ⟨ns, rfl, hl, rfl, rfl⟩, o, argsOk_cons ⟨a, rfl, s⟩ argsOk_nil, fun R x v G' H' e s r => by cases e; exact r⟩
/-- what the written part says of the error classes -/
structure ErF (K : PySem.W.Frag) (OE NT OL CR NR NL CT : Addr) : Prop where
  xnt : PySem.W.exmOne K (.ref NT) (.ref OE) = some true
  xol : PySem.W.exmOne K (.ref OL) (.ref OE) = some true
  xcr : PySem.W.exmOne K (.ref CR) (.ref OE) = some true
  xnr : PySem.W.exmOne K (.ref NR) (.ref OE) = some true
  xnl : PySem.W.exmOne K (.ref NL) (.ref OE) = some true
  tnt : ExcC K NT
  tol : ExcC K OL
  tcr : ExcC K CR
  tnr : ExcC K NR
  tnl : ExcC K NL
  fcr : XfC K CR
  fnl : XfC K NL
  acr : PySem.W.findIn K (.ref CR) "letter" = some none
  anl : PySem.W.findIn K (.ref NL) "letter" = some none
  ntol : PySem.W.kitOne K (.ref NT) (.ref OL) = some false
  ntnr : PySem.W.kitOne K (.ref NT) (.ref NR) = some false
  olnt : PySem.W.kitOne K (.ref OL) (.ref NT) = some false
  olnr : PySem.W.kitOne K (.ref OL) (.ref NR) = some false
  nrnt : PySem.W.kitOne K (.ref NR) (.ref NT) = some false
  nrol : PySem.W.kitOne K (.ref NR) (.ref OL) = some false
  tys : ∀ t ∈ noTys, PySem.W.kitOne K t (.ref CT) = some false
theorem valE_at {Γ : List Ent} {i : Nat} {α : Type} {R : Rp α} {x : α} (h : Γ[i]? = some (.val R x)) : (valE Γ)[i]? = some (.val R x) := by
  unfold valE
  rw [List.getElem?_map, h]; rfl
section
variable {X : Cx} {M : Md} {Γ : List Ent} {a b d : Expr} {p pos : Pos} {f CD CT NT OL CR NR NL : Addr} {fd : FuncData} {t1 t2 : Tb} {n1 n2 : Nat} {x : Od} {er : Er} {α β γ : Type} {R : Rp α} {S : Rp β} {U : Rp γ} {y : α} {z : β} {u : γ} {t : Value}
theorem ex_bounds3 (D : DefX X "age_bounds" 6 f fd ["quick", "slow", "relay"] (cBoundsX X.K CD CT NT OL CR NR NL)) (hr : Room 6 X.A) (ha : EV X M a Γ (rTable CD CT) t1) (hb : EV X M b Γ (rTable CD CT) t2) (hd : EV X M d Γ (rOd X.K) x) (g1 : GoodT t1 n1) (g2 : GoodT t2 n2) (hx : OdOk X.K x) (e : boundsErr NT OL CR NR NL t1 n1 t2 n2 x = some er) (hg : Gl X "age_bounds" := by rfl)
    (he : starEach [a, b, d] X.env = (false, eval a X.env) :: starEach [b, d] X.env := by rfl) (he2 : starEach [b, d] X.env = (false, eval b X.env) :: starEach [d] X.env := by rfl) (he3 : starEach [d] X.env = (false, eval d X.env) :: starEach [] X.env := by rfl) (hpl : (backTo pos (starEach [b, d] X.env)).any (·.1) = false := by rfl) : EX X M (.Call (.Name "age_bounds" p) [a, b, d] [] pos) Γ er :=
  evx_callM D hr (ea_cons ha (ea_cons hb (ea_cons hd ea_nil he3) he2) he) (fun as ea => ⟨_, _, ⟨rfl, .inr (.inr ⟨t1, t2, n1, n2, x, g1, g2, hx, ea, rfl, rfl⟩)⟩, fun u h => (by rw [e] at h; cases h.1), fun z h => Option.some.inj (h.symm.trans e)⟩) rfl rfl hg (by decide) he hpl
theorem ex_bounds1 (D : DefX X "age_bounds" 6 f fd ["quick", "slow", "relay"] (cBoundsX X.K CD CT NT OL CR NR NL)) (hr : Room 6 X.A) (ha : EV X M a Γ R y) (hb : EV X M b Γ S z) (hd : EV X M d Γ U u) (ty : TyR X.K R y t) (kit : PySem.W.kitOne X.K t (.ref CT) = some false) (hg : Gl X "age_bounds" := by rfl)
    (he : starEach [a, b, d] X.env = (false, eval a X.env) :: starEach [b, d] X.env := by rfl) (he2 : starEach [b, d] X.env = (false, eval b X.env) :: starEach [d] X.env := by rfl) (he3 : starEach [d] X.env = (false, eval d X.env) :: starEach [] X.env := by rfl) (hpl : (backTo pos (starEach [b, d] X.env)).any (·.1) = false := by rfl) : EX X M (.Call (.Name "age_bounds" p) [a, b, d] [] pos) Γ ⟨NT, []⟩ :=
  evx_callM D hr (ea_cons ha (ea_cons hb (ea_cons hd ea_nil he3) he2) he) (fun as ea => ⟨_, _, ⟨rfl, .inl ⟨α, β, γ, R, S, U, y, z, u, t, ty, kit, ea, rfl, rfl⟩⟩, fun u h => h.elim, fun z h => h⟩) rfl rfl hg (by decide) he hpl
theorem ex_bounds2 (D : DefX X "age_bounds" 6 f fd ["quick", "slow", "relay"] (cBoundsX X.K CD CT NT OL CR NR NL)) (hr : Room 6 X.A) (ha : EV X M a Γ (rTable CD CT) t1) (hb : EV X M b Γ S z) (hd : EV X M d Γ U u) (ty : TyR X.K S z t) (kit : PySem.W.kitOne X.K t (.ref CT) = some false) (hg : Gl X "age_bounds" := by rfl)
    (he : starEach [a, b, d] X.env = (false, eval a X.env) :: starEach [b, d] X.env := by rfl) (he2 : starEach [b, d] X.env = (false, eval b X.env) :: starEach [d] X.env := by rfl) (he3 : starEach [d] X.env = (false, eval d X.env) :: starEach [] X.env := by rfl) (hpl : (backTo pos (starEach [b, d] X.env)).any (·.1) = false := by rfl) : EX X M (.Call (.Name "age_bounds" p) [a, b, d] [] pos) Γ ⟨NT, []⟩ :=
  evx_callM D hr (ea_cons ha (ea_cons hb (ea_cons hd ea_nil he3) he2) he) (fun as ea => ⟨_, _, ⟨rfl, .inr (.inl ⟨β, γ, S, U, t1, z, u, t, ty, kit, ea, rfl, rfl⟩)⟩, fun u h => h.elim, fun z h => h⟩) rfl rfl hg (by decide) he hpl
end
/-- a table of one link with one ride -/
def aT (n : Nat) : Tb := [("a", endsOf n [(0, 1)])]
theorem aT_good {n : Nat} (h0 : 0 < n) (h1 : n ≤ 60) : GoodT (aT n) n := by
  have gr : GoodR [((0 : Int), (1 : Int))] := ⟨by decide, by decide, fun x hx => by rw [List.mem_singleton.mp hx]; decide⟩
  have h := lEnds_good (len := n) ⟨by omega, by omega⟩ gr
  rw [← ends_eq (by omega)] at h
  refine ⟨by unfold aT; simp, by unfold aT; simp, fun s hs => ?_, fun s l hl => ?_⟩
  · have : s = "a" := by unfold aT at hs; simpa using hs
    rw [this]; decide
  · unfold aT at hl
    have e := lookup_mem hl
    have e2 : l = endsOf n [(0, 1)] := (Prod.mk.inj (List.mem_singleton.mp e)).2
    rw [e2]
    exact ⟨h.1, by rw [h.2]; omega⟩
theorem aT_keys {n : Nat} (h0 : 0 < n) (h1 : n ≤ 60) : (tabOf (aT n)).map (·.1) = (["a"] : List Str) := by
  rw [tab_keys]
  have e : ∀ s ∈ lows, ((aT n).lookup s).isSome = decide (s = "a") := fun s hs => by
    by_cases q : s = "a"
    · rw [q]; rfl
    · rw [decide_eq_false q]
      show ((List.lookup s [("a", _)]).isSome) = false
      rw [List.lookup_cons, beq_eq_false_iff_ne.mpr q]
      rfl
  unfold keysOf
  rw [List.filter_congr e]
  decide +kernel
abbrev lawN : List Str := ["script", "state", "turn", "length", "rides", "links", "slower", "due", "lap", "some", "found", "crossed", "error", "calls", "call", "word", "lacking", "like", "no_relay", "odd", "other", "quick", "relay", "slow", "letter", "number"]
theorem sc_law : FnScope lawN ["script"] (defScope (top 74)) := ⟨rfl, rfl, rfl, by decide +kernel, rfl, by decide +kernel, by decide +kernel⟩
section
variable {P : Program} {w : World} {K : PySem.W.Frag} {mg : Str → Option Value} {base : Heap} {f CD CT OE NT OL CR NR NL cc PT : Addr} {fd : FuncData}
abbrev G0 (K : PySem.W.Frag) (ns : List Int) (st : Addr) : List Ent := [.val (rScr K) ns, .adr st, .any, .any, .any, .any, .any, .any, .any, .any, .any, .any, .any, .any, .any, .any, .any, .any, .any, .any, .any, .any, .any, .any, .any, .any]
/-- length, links, slower, due, quick, relay, slow -/
abbrev G1 (K : PySem.W.Frag) (CD CT : Addr) (ns : List Int) (st : Addr) (N : Nat) (ds us : Tb) (z : Str) : List Ent := [.val (rScr K) ns, .adr st, .any, .val rInt (N : Int), .any, .val rLk ds, .val rLk us, .val (rPair (rTup rInt) (rTup rInt)) (lAges ds N z, lAges us N z), .any, .any, .any, .any, .any, .any, .any, .any, .any, .any, .any, .any, .any, .val (rTable CD CT) (tabOf ds), .val rStr z, .val (rTable CD CT) (tabOf us), .any, .any]
abbrev lA : List Str := ["a"]
theorem eqv_a : ∀ ks : List Str, PyData.eqv (.list (ks.map PyData.str)) (.list (lA.map PyData.str)) = decide (ks = lA)
  | [] => rfl
  | [x] => by
    show (decide (x = "a") && true) = decide ([x] = lA)
    rw [Bool.and_true]
    exact decide_eq_decide.mpr ⟨fun h => by rw [h], fun h => List.cons.inj h |>.1⟩
  | x :: y :: r => by
    show (decide (x = "a") && false) = decide (x :: y :: r = lA)
    rw [Bool.and_false, decide_eq_false]
    intro h
    exact absurd (List.cons.inj h).2 (by simp)
theorem atI_end {α : Type} {l : List α} {c : α} (h : l.getLast? = some c) : atI l (-1) = some c := by
  cases l with
  | nil => cases h
  | cons x xs =>
    unfold atI ixN
    have hl : (0 : Int) < ((x :: xs).length : Int) := by rw [List.length_cons]; omega
    rw [if_neg (by decide), List.getLast?_eq_getElem?] at *
    rw [if_pos (by omega)]
    show (x :: xs)[((-1 : Int) + ((x :: xs).length : Int)).toNat]? = some c
    rw [show ((-1 : Int) + ((x :: xs).length : Int)).toNat = (x :: xs).length - 1 by omega]
    exact h
abbrev G2 (K : PySem.W.Frag) (CD CT : Addr) (ns : List Int) (st : Addr) (N : Nat) (ds us : Tb) (z : Str) (t0 : Value) (x0 : Od) (e : Ent) : List Ent := [.val (rScr K) ns, .adr st, .any, .val rInt (N : Int), .any, .val rLk ds, .any, .any, .any, .any, .any, .any, .any, e, .any, .any, .val (rLst rStr) (lacks ds), .val (rTable CD CT) (tabOf (aT N)), .val (rOd K) x0, .val (rOd K) (.ty t0), .val (rTable CD CT) (tabOf (aT (N + 1))), .val (rTable CD CT) (tabOf ds), .val rStr z, .val (rTable CD CT) (tabOf us), .any, .any]
abbrev lawX (P : Program) (w : World) (K : PySem.W.Frag) (mg : Str → Option Value) (base : Heap) (f cc : Addr) (A : Around) (outer : List Env) (s : Shared) (H : Hp) (E : XK) : Cx := (cxOf CX0 P w K mg base lawN "law" (defScope (top 74)) f (.ref cc) A outer s H E).nox
def lawRest : List Stmt := match (defBody (top 74)).getD 1 (.Pass ⟨0, 0, 0, 0⟩) with
  | .For _ _ b _ _ => b.drop 8
  | _ => []
theorem law_rest {f13 f14 f15 f16 f17 : Addr} {fd13 fd14 fd15 fd16 fd17 fd18 fd19 : FuncData} (TB : LamX.TabB base mg cc PT) (B : Bn mg) (Q : Kls K mg CD CT) (Ef : ErF K OE NT OL CR NR NL CT) (gCR : mg "Crossed" = some (.ref CR)) (gNR : mg "NoRow" = some (.ref NR)) (gNL : mg "NoLink" = some (.ref NL))
    (Dnot : DefSC P w K mg base "_law_no_table" 4 f13 fd13 ["state"] (cNoTable K)) (Dnor : DefSC P w K mg base "_law_no_relay" 4 f14 fd14 ["state"] (cNoRelay K)) (Dcau : DefC P w K mg base "_law_caught" 8 f15 fd15 ["action"] (cCaught P w K mg base OE)) (Dword : DefC P w K mg base "_law_word" 9 f16 fd16 ["action"] (cWord P w K mg base OE NT OL NR)) (Dbx : DefXC P w K mg base "age_bounds" 6 f17 fd17 ["quick", "slow", "relay"] (cBoundsX K CD CT NT OL CR NR NL)) (DmD : MkrC P w K mg base "Daily" CD 4 fd18 ["self", "length", "rides"] φD iDaily) (DmT : MkrC P w K mg base "DailyTable" CT 3 fd19 ["self", "dailies"] (φT CD) (iTable CD))
    {A : Around} {outer : List Env} {s : Shared} {H : Hp} {E : XK} (hr : Room 9 (A.deeper (PyProof.Rows.envOfC "law" (defScope (top 74)) s.heap.objs.size f (.ref cc)))) {st g c : Addr} {ns : List Int} {i N : Nat} {ds us : Tb} {z : Str} {Po : Post} (gt : GoodT ds N) (gu : GoodT us N) (su : SlowT ds us) (rl : Rel ds z) (hi5 : i < 5) (hN : 0 < N ∧ N ≤ 24) (hPo : Po.nx (G0 K ns st)) :
    SSt (lawX P w K mg base f cc A outer s H E) (MdT [(PT, lamQ)] (MdS st g c (1000 * i + 875))) (MdT [(PT, lamQ)] (MdS st g c (1000 * (i + 1)))) lawRest (G1 K CD CT ns st N ds us z) Po := by
  have hdl := gt.sum
  obtain ⟨cr, ecr⟩ : ∃ cr, cr = (keysOf ds).filter fun s => !decide ((us.lookup s).getD [] = (ds.lookup s).getD []) := ⟨_, rfl⟩
  have crlow : ∀ s ∈ cr, s ∈ lows := fun s hs => by
    rw [ecr] at hs
    exact (List.mem_filter.mp (List.mem_filter.mp hs).1).1
  refine ss_setLc (M1 := MdT [(PT, lamQ)] (MdS st g c (1000 * i + 875))) 11 (LCt.imp (P' := fun y => y = cr) (lc_ (S := rStr) (pb := fun s => !decide ((us.lookup s).getD [] = (ds.lookup s).getD [])) (g := fun s => s) (own := [("letter", 24)]) rfl sc_law.nd (it_list (R := rStr) (P := fun y => y = keysOf ds) (EFt.ev (EFt.imp (ef_sortedDK (kvs := ds) (R := rLst rInt) B.sorted rfl (ev_var 5) (by omega)) (fun ys ⟨hp, hs⟩ => sorted_keys gt hp hs)))) (blkOk_by (by kernel_rfl)) (by decide) (fun _ _ _ _ _ _ => tg_name 24 sc_law.nd)
    (fun _ _ _ _ _ y hy => by
      obtain ⟨l, el⟩ := keysOf_mem hy
      obtain ⟨u, eu, _⟩ := su.slow y l el
      exact ts_one (tv_is (tv_cmp1 (ev_neLL (xs := u) (ys := l) (hr.lt 64) (ev_dget (hr.lt 1) (ev_var 6) (ev_var 24) eu) (ev_dget (hr.lt 1) (ev_var 5) (ev_var 24) el))) (by rw [eu, el]; rfl))) (fun _ _ _ _ _ y hy _ => ev_var 24)) (fun y e => by rw [e, List.map_id', ecr])) (fun y ey => ?_)
  subst ey
  -- the first lambda
  have okN : OdOk K (.ty (.type "NoneType")) := kit_ty (by decide +kernel)
  obtain ⟨er, eb, hcls⟩ : ∃ er, boundsErr NT OL CR NR NL (tabOf us) N (tabOf ds) N (.ty (.type "NoneType")) = some er ∧ ((y = [] ∧ er = ⟨NR, []⟩) ∨ ∃ s0 r, y = s0 :: r ∧ er = ⟨CR, [("letter", .str s0)]⟩) := by
    unfold boundsErr
    rw [if_pos (keys_tab gt su).symm, if_pos rfl, cross_eq gt su, ← ecr]
    cases y with
    | nil => exact ⟨_, rfl, .inl ⟨rfl, rfl⟩⟩
    | cons s0 r => exact ⟨_, rfl, .inr ⟨s0, r, rfl, rfl⟩⟩
  have ex1 : PySem.W.exmOne K (.ref er.cls) (.ref OE) = some true := by
    rcases hcls with ⟨_, e⟩ | ⟨_, _, _, e⟩ <;> rw [e]
    · exact Ef.xnr
    · exact Ef.xcr
  have memT : (PT, (lawX P w K mg base f cc A outer s H E).env.qual ++ "<lambda>") ∈ [(PT, lamQ)] := List.mem_singleton.mpr rfl
  have onlyT : ∀ p ∈ [(PT, lamQ)], p.1 = PT → p.2 = (lawX P w K mg base f cc A outer s H E).env.qual ++ "<lambda>" := fun p hp _ => by rw [List.mem_singleton.mp hp]; rfl
  refine ss_setP (M1 := MdT [(PT, lamQ)] (MdS st g c (1000 * i + 875))) (R := rErr) (P := fun q => q = er) 12 sc_law.nd (ev_callL1 (kl := 6) (oc := .err er) Dcau (hr.mono (by decide)) (ev_lam TB memT onlyT (LamX.lamS_by (by kernel_rfl)))
    ⟨LamX.lamS_by (by kernel_rfl), fun _ _ _ _ _ => rfl, fun A' outer' s' H' E' f' c' hr' => run_err (ex_bounds3 Dbx hr' (ev_var 23) (ev_var 21) (ev_odT ev_none ty_none) (tab_good gu) (tab_good gt) okN eb)⟩
    ⟨_, ⟨.err er, fun er' e => (by cases e; exact ex1), rfl, rfl⟩, fun u hu => (by
      rcases hu with ⟨h, _⟩ | ⟨er', e, hu⟩
      · cases h
      · cases e; exact ⟨er, rfl, hu⟩)⟩ st_err) (fun q eq => ?_)
  subst eq
  have lay : ∀ x ∈ y, PyData.canLay0 (.str x) = true := fun x hx => by
    have h : ∀ x ∈ lows, PyData.canLay0 (.str x) = true := by decide +kernel
    exact h x (crlow x hx)
  have letO : ∀ s0 r, y = s0 :: r → s0.length ≤ 1000 := fun s0 r e => by
    have := (low_facts s0 (crlow s0 (by rw [e]; exact List.mem_cons_self))).2.1
    omega
  refine ss_ifn (by
    rcases hcls with ⟨e1, e2⟩ | ⟨s0, r, e1, e2⟩
    · subst e1
      exact tw_val (tw_and (t1 := false) (t2 := false) (tv_is (tv_cmp1 (ev_neD (d1 := .list []) (d2 := .list []) (hr.lt 64) (ev_var 11) (EFt.ev (ef_lst (R := rStr) (xs := []) ea_same)) (hd_lst (R := rStr) (xs := []) PyData.str fun x _ => hd_str) (hd_lst (R := rStr) (xs := []) PyData.str fun x _ => hd_str) (by decide) (by decide))) rfl) fun h => by cases h)
    · subst e1 e2
      exact tw_val (tw_and (t1 := true) (t2 := false) (tv_is (tv_cmp1 (ev_neD (d1 := .list ((s0 :: r).map PyData.str)) (d2 := .list []) (hr.lt 64) (ev_var 11) (EFt.ev (ef_lst (R := rStr) (xs := []) ea_same)) (hd_lst PyData.str fun x _ => hd_str) (hd_lst (R := rStr) (xs := []) PyData.str fun x _ => hd_str) (shaped_strs lay) (by decide))) rfl) fun _ =>
        tw_and1 (tw_val (tw_or (t1 := false) (tv_not (t1 := true) (tv_val (ev_isiE (er := ⟨CR, [("letter", .str s0)]⟩) B.isinstance (ev_var 12) Ef.tcr (pe_own gCR) (.own CR) kit_self))) fun _ =>
          tw_or1 (tv_is (tv_cmp1 (ev_neS (ev_vlS (ev_fldE (er := ⟨CR, [("letter", .str s0)]⟩) (f := "letter") (x := .str s0) (ev_var 12) Ef.fcr Ef.acr rfl)) (ev_ixL (ev_var 11) ev_int (x := s0) (atI_nat (j := 0) rfl)))) (by rw [beq_self_eq_true]; rfl)))))) ?_
  refine ss_ifn (by
    rcases hcls with ⟨e1, e2⟩ | ⟨s0, r, e1, e2⟩
    · subst e1 e2
      exact tw_val (tw_and (t1 := true) (t2 := false) (tv_is (tv_cmp1 (ev_eqD (d1 := .list []) (d2 := .list []) (hr.lt 64) (ev_var 11) (EFt.ev (ef_lst (R := rStr) (xs := []) ea_same)) (hd_lst (R := rStr) (xs := []) PyData.str fun x _ => hd_str) (hd_lst (R := rStr) (xs := []) PyData.str fun x _ => hd_str) (by decide) (by decide))) rfl) fun _ => tw_and1 (tv_not (t1 := true) (tv_val (ev_isiE (er := ⟨NR, []⟩) B.isinstance (ev_var 12) Ef.tnr (pe_own gNR) (.own NR) kit_self))))
    · subst e1
      exact tw_val (tw_and (t1 := false) (t2 := false) (tv_is (tv_cmp1 (ev_eqD (d1 := .list ((s0 :: r).map PyData.str)) (d2 := .list []) (hr.lt 64) (ev_var 11) (EFt.ev (ef_lst (R := rStr) (xs := []) ea_same)) (hd_lst PyData.str fun x _ => hd_str) (hd_lst (R := rStr) (xs := []) PyData.str fun x _ => hd_str) (shaped_strs lay) (by decide))) rfl) fun h => by cases h)) ?_
  refine ss_asgP (M1 := MdT [(PT, lamQ)] (MdS st g c (1000 * i + 877))) (R := rPair (rOd K) (rOd K)) (P := fun q => (∃ t, t ∈ noTys ∧ q.1 = .ty t) ∧ q.2 ∈ noRels) (EVt.tab (ev_pairP (M1 := MdS st g c (1000 * i + 876)) (P := fun x => ∃ t, t ∈ noTys ∧ x = Od.ty t) (P2 := fun x => x ∈ noRels)
    (ev_callS (M1 := MdS st g c (1000 * i + 875)) Dnot (hr.mono (by decide)) (ea_adr 1 rfl ea_nil) (fun as ⟨r, e1, e2⟩ => ⟨_, ⟨st, g, c, 1000 * i + 875, by omega, rfl, rfl, by rw [e2, e1], rfl⟩, fun u ⟨t, ht, hu⟩ => ⟨.ty t, ⟨t, ht, rfl⟩, hu⟩⟩))
    (ev_callS (M1 := MdS st g c (1000 * i + 876)) Dnor (hr.mono (by decide)) (ea_adr 1 rfl ea_nil) (fun as ⟨r, e1, e2⟩ => ⟨_, ⟨st, g, c, 1000 * i + 876, by omega, rfl, rfl, by rw [e2, e1], rfl⟩, fun u hu => hu⟩)))) (tg_pair 19 18 rfl sc_law.nd) (fun q2 hq2 => ?_)
  obtain ⟨o0, x0⟩ := q2
  obtain ⟨⟨t0, ht0, eo⟩, hx0⟩ := hq2
  replace eo : o0 = .ty t0 := eo
  subst eo
  replace hx0 : x0 ∈ noRels := hx0
  refine ss_set (R := rLst rStr) (x := lacks ds) 16 sc_law.nd (EFt.ev (EFt.imp (ef_lc (S := rStr) (pb := fun s => !(ds.lookup (Txt.lower s)).isSome) (g := fun s => s) (own := [("letter", 24)]) rfl sc_law.nd (it_strE (z := "ABCD") ev_str (by decide +kernel) (show signs "ABCD" = ups by decide +kernel)) (blkOk_by (by kernel_rfl)) (by decide) (fun _ _ _ _ _ _ => tg_name 24 sc_law.nd)
    (fun _ _ _ _ _ y hy => ts_one (tv_cmp1 (ev_dnotin (hr.lt 1) (ev_lower (ev_var 24) (by rw [(up_facts y hy).2.1]; decide)) (ev_var 5)))) (fun _ _ _ _ _ y hy _ => ev_var 24)) (fun y e => by rw [e, List.map_id']; rfl))) ?_
  have gO := aT_good (n := N + 1) (by omega) (by omega)
  have gL := aT_good (n := N) (by omega) (by omega)
  have rid1 : ∀ x ∈ ([(0, 1)] : List (Int × Int)), x.1 ≤ x.2 := fun x hx => by rw [List.mem_singleton.mp hx]; decide
  refine ss_set (R := rTable CD CT) (x := tabOf (aT (N + 1))) 20 sc_law.nd (ev_makeP (Py := fun z => z = tabOf (aT (N + 1))) DmT (hr.mono (by decide)) (ea_cons (R := rDic (rDaily CD)) (x := aT (N + 1)) (ev_d1S ev_str (ev_makeP (Py := fun y => y = endsOf ((N + 1 : Nat) : Int) [(0, 1)]) DmD (hr.mono (by decide)) (ea_cons (R := rInt) (x := ((N + 1 : Nat) : Int)) (ev_if (t1 := true) (tv_is (tv_cmp1 (ev_lt (ev_var 3) ev_int)) (by simp; omega)) (fun _ => ev_is (ev_add (ev_var 3) ev_int) (by omega)) (fun h => by cases h)) (ea_cons (EFt.ev (ef_lst (R := rPair rInt rInt) (xs := [((0 : Int), (1 : Int))]) (ea_cons (ev_pair (ea_cons ev_int (ea_cons ev_int ea_nil))) ea_same))) ea_nil)) (fun as e => ⟨((N + 1 : Nat) : Int), [(0, 1)], ⟨by omega, by omega⟩, by decide, by decide, rid1, e, rfl⟩))) ea_nil) (fun as e => ⟨aT (N + 1), N + 1, gO, e, rfl⟩)) ?_
  refine ss_set (R := rTable CD CT) (x := tabOf (aT N)) 17 sc_law.nd (ev_makeP (Py := fun z => z = tabOf (aT N)) DmT (hr.mono (by decide)) (ea_cons (R := rDic (rDaily CD)) (x := aT N) (ev_d1S ev_str (ev_makeP (Py := fun y => y = endsOf (N : Int) [(0, 1)]) DmD (hr.mono (by decide)) (ea_cons (R := rInt) (x := (N : Int)) (ev_var 3) (ea_cons (EFt.ev (ef_lst (R := rPair rInt rInt) (xs := [((0 : Int), (1 : Int))]) (ea_cons (ev_pair (ea_cons ev_int (ea_cons ev_int ea_nil))) ea_same))) ea_nil)) (fun as e => ⟨(N : Int), [(0, 1)], ⟨by omega, by omega⟩, by decide, by decide, rid1, e, rfl⟩))) ea_nil) (fun as e => ⟨aT N, N, gL, e, rfl⟩)) ?_
  -- what the calls are
  obtain ⟨LG, eLG⟩ : ∃ LG : Lm × Str → Prop, LG = fun q => ∃ (er : Er) (b1 b2 b3 : Bool), (∀ Γ2 : List Ent, Γ2[21]? = some (.val (rTable CD CT) (tabOf ds)) → Γ2[23]? = some (.val (rTable CD CT) (tabOf us)) → Γ2[19]? = some (.val (rOd K) (.ty t0)) → Γ2[18]? = some (.val (rOd K) x0) → Γ2[17]? = some (.val (rTable CD CT) (tabOf (aT N))) → Γ2[20]? = some (.val (rTable CD CT) (tabOf (aT (N + 1)))) → LamOk (lawX P w K mg base f cc A outer s H E) (MdT [(PT, lamQ)] (MdS st g c (1000 * i + 877))) Γ2 6 q.1 (.err er)) ∧
      PySem.W.exmOne K (.ref er.cls) (.ref OE) = some true ∧ ExcC K er.cls ∧ PySem.W.kitOne K (.ref er.cls) (.ref NT) = some b1 ∧ PySem.W.kitOne K (.ref er.cls) (.ref OL) = some b2 ∧ PySem.W.kitOne K (.ref er.cls) (.ref NR) = some b3 ∧ q.2 = (if b1 = true then ("table" : Str) else if b2 = true then "length" else if b3 = true then "row" else "other") := ⟨_, rfl⟩
  have gds := tab_good gt
  have gus := tab_good gu
  have eOL : boundsErr NT OL CR NR NL (tabOf (aT N)) N (tabOf (aT (N + 1))) (N + 1) (.ty (.type "NoneType")) = some ⟨OL, []⟩ := by
    unfold boundsErr
    rw [if_pos (by rw [aT_keys (by omega) (by omega), aT_keys (by omega) (by omega)]), if_neg (by omega)]
  have eNR : boundsErr NT OL CR NR NL (tabOf ds) N (tabOf us) N x0 = some ⟨NR, []⟩ := by
    unfold boundsErr
    rw [if_pos (keys_tab gt su), if_pos rfl, cross_none gt su]
    have hb := noRels_bad x0 hx0
    cases x0 with
    | ty t => rfl
    | str z => exact if_neg (by rw [show isRel z = false from hb]; exact Bool.false_ne_true)
  have hM4 : Nx (MdS st g c (1000 * i + 877)) := nx_S
  refine ss_setFP (M1 := MdT [(PT, lamQ)] (MdS st g c (1000 * i + 877))) (R := rPair (rLam (lawX P w K mg base f cc A outer s H E).env.qual (lawX P w K mg base f cc A outer s H E).env.cells) rStr) (P := fun xs => xs.length = 4 ∧ ∀ q ∈ xs, LG q) 13 sc_law.nd (EFt.imp (ef_lst (xs := ([(_, "table"), (_, "table"), (_, "length"), (_, "row")] : List (Lm × Str))) (ea_cons (ev_pair (ea_cons (ev_lam TB memT onlyT (LamX.lamS_by (by kernel_rfl))) (ea_cons ev_str ea_nil))) (ea_cons (ev_pair (ea_cons (ev_lam TB memT onlyT (LamX.lamS_by (by kernel_rfl))) (ea_cons ev_str ea_nil))) (ea_cons (ev_pair (ea_cons (ev_lam TB memT onlyT (LamX.lamS_by (by kernel_rfl))) (ea_cons ev_str ea_nil))) (ea_cons (ev_pair (ea_cons (ev_lam TB memT onlyT (LamX.lamS_by (by kernel_rfl))) (ea_cons ev_str ea_nil))) ea_same))))) (fun xs exs => ?_)) (fun xs ⟨hxl, hxs⟩ => ?_)
  · subst exs
    refine ⟨rfl, ?_⟩
    rw [eLG]
    intro q hq
    simp only [List.mem_cons, List.mem_nil_iff, or_false] at hq
    rcases hq with rfl | rfl | rfl | rfl
    · exact ⟨⟨NT, []⟩, true, false, false, fun Γ2 h21 h23 h19 h18 h17 h20 => ⟨LamX.lamS_by (by kernel_rfl), fun _ _ _ _ _ => rfl, fun A' outer' s' H' E' f' c' hr' => run_err (ex_bounds1 Dbx hr' (ev_var 19 (valE_at h19)) ev_none ev_none (ty_od (.ty t0)) (Ef.tys t0 ht0))⟩, Ef.xnt, Ef.tnt, kit_self, Ef.ntol, Ef.ntnr, rfl⟩
    · exact ⟨⟨NT, []⟩, true, false, false, fun Γ2 h21 h23 h19 h18 h17 h20 => ⟨LamX.lamS_by (by kernel_rfl), fun _ _ _ _ _ => rfl, fun A' outer' s' H' E' f' c' hr' => run_err (ex_bounds2 Dbx hr' (ev_var 21 (valE_at h21)) (ev_var 19 (valE_at h19)) ev_none (ty_od (.ty t0)) (Ef.tys t0 ht0))⟩, Ef.xnt, Ef.tnt, kit_self, Ef.ntol, Ef.ntnr, rfl⟩
    · exact ⟨⟨OL, []⟩, false, true, false, fun Γ2 h21 h23 h19 h18 h17 h20 => ⟨LamX.lamS_by (by kernel_rfl), fun _ _ _ _ _ => rfl, fun A' outer' s' H' E' f' c' hr' => run_err (ex_bounds3 Dbx hr' (ev_var 17 (valE_at h17)) (ev_var 20 (valE_at h20)) (ev_odT ev_none ty_none) (tab_good gL) (tab_good gO) okN eOL)⟩, Ef.xol, Ef.tol, Ef.olnt, kit_self, Ef.olnr, rfl⟩
    · exact ⟨⟨NR, []⟩, false, false, true, fun Γ2 h21 h23 h19 h18 h17 h20 => ⟨LamX.lamS_by (by kernel_rfl), fun _ _ _ _ _ => rfl, fun A' outer' s' H' E' f' c' hr' => run_err (ex_bounds3 Dbx hr' (ev_var 21 (valE_at h21)) (ev_var 23 (valE_at h23)) (ev_var 18 (valE_at h18)) gds gus (noRels_ok x0 hx0) eNR)⟩, Ef.xnr, Ef.tnr, Ef.nrnt, Ef.nrol, kit_self, rfl⟩
  refine ss_weak (Γ' := G2 K CD CT ns st N ds us z t0 x0 (.own (rPair (rLam (lawX P w K mg base f cc A outer s H E).env.qual (lawX P w K mg base f cc A outer s H E).env.cells) rStr) xs)) (by repeat' first | exact trivial | exact Or.inr rfl | exact Or.inl rfl | refine And.intro ?_ ?_) ?_
  have layL : ∀ ks : List Str, (∀ x ∈ ks, x ∈ lows ∨ x ∈ ups) → ∀ x ∈ ks, PyData.canLay0 (.str x) = true := fun ks h x hx => by
    have h1 : ∀ x ∈ lows, PyData.canLay0 (.str x) = true := by decide +kernel
    have h2 : ∀ x ∈ ups, PyData.canLay0 (.str x) = true := by decide +kernel
    exact (h x hx).elim (h1 x) (h2 x)
  refine ss_ifc (N := fun Γ' => ∃ ys : List (Lm × Str), (∀ q ∈ ys, LG q) ∧ Γ' = G2 K CD CT ns st N ds us z t0 x0 (.own (rPair (rLam (lawX P w K mg base f cc A outer s H E).env.qual (lawX P w K mg base f cc A outer s H E).env.cells) rStr) ys)) (Pb := fun b => b = !decide (keysOf ds = lA)) (tv_is (tv_cmp1 (ev_neD (d1 := .list ((keysOf ds).map PyData.str)) (d2 := .list (lA.map PyData.str)) (hr.lt 64) (EFt.ev (EFt.imp (ef_sortedDK (kvs := ds) (R := rLst rInt) B.sorted rfl (ev_var 5) (by omega)) (fun ys ⟨hp, hs⟩ => sorted_keys gt hp hs))) (EFt.ev (ef_lst (R := rStr) (xs := ["a"]) (ea_cons ev_str ea_same))) (hd_lst PyData.str fun x _ => hd_str) (hd_lst PyData.str fun x _ => hd_str) (shaped_strs (layL _ fun x hx => .inl (List.mem_filter.mp hx).1)) (shaped_strs (layL _ fun x hx => .inl (by rw [List.mem_singleton.mp hx]; decide))))) (by rw [eqv_a])) (fun h => ?_) (fun h => ss_nil ⟨xs, hxs, rfl⟩) (fun Γ' ⟨ys, hys, e⟩ => ?_) (hle := Le.tab (Le.up (by omega)))
  · have hk : keysOf ds ≠ lA := by simpa using h.symm
    have eNT : boundsErr NT OL CR NR NL (tabOf ds) N (tabOf (aT N)) N (.ty (.type "NoneType")) = some ⟨NT, []⟩ := if_neg (by rw [aT_keys (by omega) (by omega), tab_keys]; exact fun e => hk e.symm)
    refine ss_appendP (M1 := MdT [(PT, lamQ)] (MdS st g c (1000 * i + 877))) (Pa := LG) 13 rfl (by omega) (EVt.imp (ev_pair (R := rLam (lawX P w K mg base f cc A outer s H E).env.qual (lawX P w K mg base f cc A outer s H E).env.cells) (S := rStr) (y := "table") (ea_cons (ev_lam TB memT onlyT (LamX.lamS_by (by kernel_rfl))) (ea_cons ev_str ea_nil))) (fun x ex => ?_)) (fun x hx => ss_nil ⟨xs ++ [x], fun q hq => ?_, rfl⟩)
    · subst ex
      rw [eLG]
      exact ⟨⟨NT, []⟩, true, false, false, fun Γ2 h21 h23 h19 h18 h17 h20 => ⟨LamX.lamS_by (by kernel_rfl), fun _ _ _ _ _ => rfl, fun A' outer' s' H' E' f' c' hr' => run_err (ex_bounds3 Dbx hr' (ev_var 21 (valE_at h21)) (ev_var 17 (valE_at h17)) (ev_odT ev_none ty_none) gds (tab_good gL) okN eNT)⟩, Ef.xnt, Ef.tnt, kit_self, Ef.ntol, Ef.ntnr, rfl⟩
    · rcases List.mem_append.mp hq with q1 | q1
      · exact hxs q q1
      · rw [List.mem_singleton.mp q1]; exact hx
  · subst e
    rw [eLG] at hys
    refine ss_freeze 13 rfl ?_
    refine ss_for0 PassesOwn.never rfl (it_list (ev_var 13)) (fun _ => tg_pair 14 15 rfl sc_law.nd) (G2 K CD CT ns st N ds us z t0 x0 (.val (rLst (rPair (rLam (lawX P w K mg base f cc A outer s H E).env.qual (lawX P w K mg base f cc A outer s H E).env.cells) rStr)) ys)) (Weak.refl _) (fun xs' j q exs hz hq => ?_) ?_ (hle := Le.tab (Le.up (by omega)))
    · subst exs
      obtain ⟨er, b1, b2, b3, hL, hx, hT, k1, k2, k3, hw⟩ := hys q (List.mem_of_getElem? hq)
      refine ss_ifn (tv_is (tv_cmp1 (ev_neS (ev_callL1 (kl := 6) (oc := .err er) (R := rStr) (P := fun y => y = q.2) Dword hr (ev_var 14) (hL _ rfl rfl rfl rfl rfl rfl) ⟨_, ⟨er, b1, b2, b3, hx, hT, k1, k2, k3, rfl, rfl⟩, fun u hu => ⟨q.2, rfl, by rw [hu, hw]⟩⟩ st_str) (ev_var 15))) (by rw [beq_self_eq_true]; rfl)) ?_
      exact ss_nil (by repeat' first | exact trivial | exact Or.inr rfl | exact Or.inl rfl | refine And.intro ?_ ?_)
    · refine ss_ifc (N := fun Γ' => Weak Γ' (G0 K ns st)) (Pb := fun b => b = !decide (lacks ds = [])) (tv_is (tv_cmp1 (ev_neD (d1 := .list ((lacks ds).map PyData.str)) (d2 := .list []) (hr.lt 64) (ev_var 16) (EFt.ev (ef_lst (R := rStr) (xs := []) ea_same)) (hd_lst PyData.str fun x _ => hd_str) (hd_lst (R := rStr) (xs := []) PyData.str fun x _ => hd_str) (shaped_strs (layL _ fun x hx => .inr (List.mem_filter.mp hx).1)) (by decide))) (by cases lacks ds <;> rfl)) (fun h => ?_) (fun h => ss_nil (by repeat' first | exact trivial | exact Or.inr rfl | exact Or.inl rfl | refine And.intro ?_ ?_)) (fun Γ' wk => ss_nilW wk hPo (Le.tab (Le.up (by omega)))) (hle := Le.tab (Le.up (by omega)))
      have hne : lacks ds ≠ [] := by simpa using h.symm
      obtain ⟨s0, r, e0⟩ := List.exists_cons_of_ne_nil hne
      obtain ⟨s1, e1⟩ : ∃ s1, (lacks ds).getLast? = some s1 := ⟨_, List.getLast?_eq_some_getLast hne⟩
      have m0 : s0 ∈ lacks ds := by rw [e0]; exact List.mem_cons_self
      have m1 : s1 ∈ lacks ds := List.mem_of_getLast? e1
      have f0 := up_facts s0 (List.mem_filter.mp m0).1
      have f1 := up_facts s1 (List.mem_filter.mp m1).1
      have at0 : atI (lacks ds) 0 = some s0 := atI_nat (j := 0) (by rw [e0]; rfl)
      obtain ⟨hrel, hlk⟩ := far_lack gt rl m0 m1
      have hl5 : (toS 5 z).length ≤ 12 := by
        rw [← len_signs, signs_to, List.length_take, len_signs]
        have := rl.len
        omega
      have hl6 : (toS 5 z ++ s0).length ≤ 13 := by
        rw [← len_signs, signs_catM, List.length_append, len_signs, len_signs]
        have := f0.2.1
        omega
      have hl7 : (toS 5 z ++ s0 ++ s1).length ≤ 1000 := by
        rw [← len_signs, signs_catM, List.length_append, len_signs, len_signs]
        have := f1.2.1
        omega
      have efar : boundsErr NT OL CR NR NL (tabOf ds) N (tabOf us) N (.str (toS 5 z ++ s0 ++ s1)) = some ⟨NL, [("letter", .str (Txt.lower s0))]⟩ := by
        unfold boundsErr
        rw [if_pos (keys_tab gt su), if_pos rfl, cross_none gt su]
        have e : relErr NR NL (tabOf ds) (.str (toS 5 z ++ s0 ++ s1)) = (lackOf (tabOf ds) (signs (toS 5 z ++ s0 ++ s1))).map fun s => ⟨NL, [("letter", .str (Txt.lower s))]⟩ := if_pos hrel
        rw [hlk] at e
        exact e
      refine ss_setP (M1 := MdT [(PT, lamQ)] (MdS st g c (1000 * i + 877))) (R := rErr) (P := fun q => q = ⟨NL, [("letter", .str (Txt.lower s0))]⟩) 12 sc_law.nd (ev_callL1 (kl := 6) (oc := .err ⟨NL, [("letter", .str (Txt.lower s0))]⟩) Dcau (hr.mono (by decide)) (ev_lam TB memT onlyT (LamX.lamS_by (by kernel_rfl)))
        ⟨LamX.lamS_by (by kernel_rfl), fun _ _ _ _ _ => rfl, fun A' outer' s' H' E' f' c' hr' => run_err (ex_bounds3 Dbx hr' (ev_var 21) (ev_var 23) (ev_odS (ev_catS (ev_catS (ev_toS (n := 5) (ev_var 22) (by have := rl.len; rw [sizeLine_eq]; omega)) (ev_ixL (ev_var 16) ev_int at0) (by omega)) (ev_ixL (ev_var 16) (ev_neg ev_int) (atI_end e1)) (by omega))) gds gus hl7 efar)⟩
        ⟨_, ⟨.err ⟨NL, [("letter", .str (Txt.lower s0))]⟩, fun er' e => (by cases e; exact Ef.xnl), rfl, rfl⟩, fun u hu => (by
          rcases hu with ⟨h, _⟩ | ⟨er', e, hu⟩
          · cases h
          · cases e; exact ⟨_, rfl, hu⟩)⟩ st_err) (fun q eq => ?_)
      subst eq
      refine ss_ifn (tw_val (tw_or (t1 := false) (tv_not (t1 := true) (tv_val (ev_isiE (er := ⟨NL, [("letter", .str (Txt.lower s0))]⟩) B.isinstance (ev_var 12) Ef.tnl (pe_own gNL) (.own NL) kit_self))) fun _ =>
        tw_or1 (tv_is (tv_cmp1 (ev_neS (ev_vlS (ev_fldE (er := ⟨NL, [("letter", .str (Txt.lower s0))]⟩) (f := "letter") (x := .str (Txt.lower s0)) (ev_var 12) Ef.fnl Ef.anl rfl)) (ev_lower (ev_ixL (ev_var 16) ev_int at0) (by rw [f0.2.1]; decide)))) (by rw [beq_self_eq_true]; rfl)))) ?_
      exact ss_nil (by repeat' first | exact trivial | exact Or.inr rfl | exact Or.inl rfl | refine And.intro ?_ ?_)
end
end My

namespace My
open PySem L2 RT
section
variable {P : Program} {w : World} {K : PySem.W.Frag} {mg : Str → Option Value} {base : Heap} {f CD CT OE NT OL CR NR NL cc PT : Addr} {fd : FuncData}
theorem ok_law {f1 f2 f3 f4 f6 f7 f8 f9 f10 f11 f12 f13 f14 f15 f16 f17 : Addr} {fd1 fd2 fd3 fd4 fd6 fd7 fd8 fd9 fd10 fd11 fd12 fd13 fd14 fd15 fd16 fd17 fd18 fd19 : FuncData} (F : FunC K "law" "law" (top 74) f fd cc) (TB : LamX.TabB base mg cc PT) (B : Bn mg) (Q : Kls K mg CD CT) (Ef : ErF K OE NT OL CR NR NL CT) (gCR : mg "Crossed" = some (.ref CR)) (gNR : mg "NoRow" = some (.ref NR)) (gNL : mg "NoLink" = some (.ref NL))
    (Dbeg : DefBC P w K mg base "_law_begun" 1 f1 fd1 ["script"]) (Dtab : DefSC P w K mg base "_law_table" 5 f2 fd2 ["state", "most", "many"] cTable) (Dmade : DefC P w K mg base "_law_made" 6 f3 fd3 ["length", "rides"] (cMade CD CT)) (Drel : DefSC P w K mg base "_law_relay" 4 f4 fd4 ["state", "links", "most"] cRelay) (Dpick : DefSC P w K mg base "_law_pick" 3 f6 fd6 ["state", "some"] cPick) (Dlag : DefC P w K mg base "_law_ages" 4 f7 fd7 ["links", "length", "relay"] cLAges) (Dis : DefGC P w K mg base "_law_is" 1 f8 fd8 ["found", "due"] cIs) (Dages : DefC P w K mg base "ages" 6 f9 fd9 ["table", "relay"] (cAgesBy CD CT))
    (Dslow : DefSC P w K mg base "_law_slower" 4 f10 fd10 ["state", "ends"] cSlower) (Dmid : DefSC P w K mg base "_law_middle" 4 f11 fd11 ["state", "ends", "others"] cMiddle) (Dday : DefC P w K mg base "_law_daily" 6 f12 fd12 ["ends"] (cLDaily CD)) (Dnot : DefSC P w K mg base "_law_no_table" 4 f13 fd13 ["state"] (cNoTable K)) (Dnor : DefSC P w K mg base "_law_no_relay" 4 f14 fd14 ["state"] (cNoRelay K)) (Dcau : DefC P w K mg base "_law_caught" 8 f15 fd15 ["action"] (cCaught P w K mg base OE)) (Dword : DefC P w K mg base "_law_word" 9 f16 fd16 ["action"] (cWord P w K mg base OE NT OL NR)) (Dbx : DefXC P w K mg base "age_bounds" 6 f17 fd17 ["quick", "slow", "relay"] (cBoundsX K CD CT NT OL CR NR NL)) (Dbd : DefC P w K mg base "age_bounds" 6 f17 fd17 ["quick", "slow", "relay"] (cBounds K CD CT)) (KBbd : KBinds K fd17 ["quick", "slow", "relay"] ["relay", "slow", "quick"] rv rv) (DmD : MkrC P w K mg base "Daily" CD 4 fd18 ["self", "length", "rides"] φD iDaily) (DmT : MkrC P w K mg base "DailyTable" CT 3 fd19 ["self", "dailies"] (φT CD) (iTable CD)) : FnG P w K mg base 10 f fd ["script"] (spC (cLawT K PT)) := by
  refine fnGC_mk F sc_law (fun _ _ _ ⟨_, _, _, h, _⟩ => by rw [h]; rfl) fun A outer s H E hr hgd M as res ⟨ns, hM, hz, ha, hres⟩ => ?_
  subst hM ha hres
  refine ss_beginT (ns := ns) 1 Dbeg (hr.mono (by decide)) sc_law.nd (ev_var 0) (by omega) 5000 (fun st g c => ?_)
  refine ss_forT (R := rInt) (P := fun xs => ∃ i : Int, (2 ≤ i ∧ i ≤ 5) ∧ xs = upto 0 i.toNat) (M0 := MdT [(PT, lamQ)] (MdS st g c 0)) (fun i => MdT [(PT, lamQ)] (MdS st g c (1000 * i))) (MdT [(PT, lamQ)] (MdS st g c 5000)) PassesOwn.never rfl (it_range1P (N := MdT [(PT, lamQ)] (MdS st g c 0)) (Pi := fun i => 2 ≤ i ∧ i ≤ 5) B.range (EVt.imp (ev_add ev_int (ev_min2 B.min rfl (ev_lenScr B.len (ev_var 0)) ev_int)) (fun i hi => by omega)) (fun i h => by omega)) (fun _ => tg_name 2 sc_law.nd)
    (fun xs i Γ' => Γ' = G0 K ns st) (fun xs _ => ⟨_, by repeat' first | exact trivial | exact Or.inr rfl | exact Or.inl rfl | refine And.intro ?_ ?_, rfl⟩) (fun xs i x Γi ⟨k, hk, ek⟩ hz' hx e => ?_) rfl (fun _ => rfl) (fun xs i ⟨k, hk, e⟩ hi => Le.tab (Le.up (by rw [e, upto_len] at hi; omega))) (fun xs Γ' _ e => ?_)
  · subst e
    have hi5 : i < 5 := by have := (List.getElem?_eq_some_iff.mp hx).1; rw [ek, upto_len] at this; omega
    clear hx hz' ek hk
    refine ss_asgP (M1 := MdT [(PT, lamQ)] (MdS st g c (1000 * i + 130))) (R := rPair rInt (rDic rRid)) (P := fun q : Int × Rt => 0 < q.1 ∧ q.1 ≤ 60 ∧ q.1 ≤ 24 ∧ GoodRt q.2) (EVt.tab (ev_callS (M1 := MdS st g c (1000 * i)) Dtab (hr.mono (by decide)) (ea_adr 1 rfl (ea_cons (R := rInt) (x := 24) ev_int (ea_cons (R := rInt) (x := 4) ev_int ea_nil))) (fun as ⟨r, e1, e2⟩ => ⟨_, ⟨st, g, c, 1000 * i, 24, 4, by omega, rfl, rfl, by decide, by decide, by rw [e2, e1], rfl⟩, fun u hu => hu⟩))) (tg_pair 3 4 rfl sc_law.nd) (fun q hq => ?_)
    obtain ⟨len, rs⟩ := q
    obtain ⟨h1, h2, h24, gr⟩ := hq
    obtain ⟨N, hN⟩ : ∃ N : Nat, (N : Int) = len := ⟨len.toNat, by omega⟩
    subst hN
    refine ss_asgP (R := rPair (rTable CD CT) rLk) (P := fun y => y = (tabOf (dsOf N rs), lkOf N rs)) (ev_call Dmade (hr.mono (by decide)) (ea_cons (ev_var 3) (ea_cons (ev_var 4) ea_nil)) ⟨N, rs, ⟨h1, h2⟩, gr, rfl, rfl⟩) (tg_pair 21 5 rfl sc_law.nd) (fun y hy => ?_)
    subst hy
    rw [ds_lk h1 rs]
    have gt := lk_good ⟨h1, h2⟩ gr
    have mt := lk_mono h1 gr
    have tt := lk_tight ⟨h1, h2⟩ gr
    rw [Int.toNat_natCast] at gt
    generalize lkOf (N : Int) rs = ds at gt mt tt
    have hN0 : 0 < N := by omega
    have hN24 : N ≤ 24 := by omega
    have hdl := gt.sum
    refine ss_weak (Γ' := [.val (rScr K) ns, .adr st, .any, .val rInt (N : Int), .any, .val rLk ds, .any, .any, .any, .any, .any, .any, .any, .any, .any, .any, .any, .any, .any, .any, .any, .val (rTable CD CT) (tabOf ds), .any, .any, .any, .any]) (by repeat' first | exact trivial | exact Or.inr rfl | exact Or.inl rfl | refine And.intro ?_ ?_) ?_
    have look : ∀ {y : Str}, y ∈ ds.map (·.1) → ∃ l, ds.lookup y = some l := fun {y} hy => Option.isSome_iff_exists.mp (lookup_some hy)
    refine ss_setP (M1 := MdT [(PT, lamQ)] (MdS st g c (1000 * i + 374))) (R := rLk) (P := fun us => SlowT ds us ∧ ∀ q ∈ us, q.2.getD 0 0 ≤ 800) 6 sc_law.nd (EVt.tab (ev_dictP (Pl := fun us => SlowT ds us ∧ ∀ q ∈ us, q.2.getD 0 0 ≤ 800) B.dict rfl (EFt.ev ((ef_lcT (M0 := MdS st g c (1000 * i + 130)) (N := MdS st g c (1000 * i + 374)) (P := fun xs => xs = ds.map (·.1)) (S := rPair rStr (rLst rInt)) (pb := fun _ => true) (Py := fun x y => y.1 = x ∧ (fun x m => Slow ((ds.lookup x).getD []) m ∧ m.getD 0 0 ≤ 800) x y.2) (fun i' => MdS st g c (1000 * i + 130 + 61 * i')) (own := [("letter", 24)]) rfl sc_law.nd (it_dic (by omega) (ev_var 5)) (blkOk_by (by kernel_rfl)) (by decide) rfl (fun _ => rfl) (fun xs e => Le.up (by rw [e, List.length_map]; omega)) (fun i' => Le.up (by omega)) (fun _ _ _ _ _ _ => tg_name 24 sc_law.nd) (fun _ _ _ _ _ _ _ _ _ _ => ts_nil)
      (fun s1 H1 C1 cl1 fp1 xs i' x ex hx _ => by
        have hi4 : i' < 4 := by have := (List.getElem?_eq_some_iff.mp hx).1; rw [ex, List.length_map] at this; omega
        obtain ⟨l, el⟩ := look (by rw [← ex]; exact List.mem_of_getElem? hx)
        obtain ⟨gl, _⟩ := gt.good x l el
        exact ev_pairP (M1 := MdS st g c (1000 * i + 130 + 61 * i')) (P := fun y => y = x) (P2 := fun m => Slow ((ds.lookup x).getD []) m ∧ m.getD 0 0 ≤ 800) (ev_var 24) (ev_callS (M1 := MdS st g c (1000 * i + 130 + 61 * i')) Dslow (hr.mono (by decide)) (ea_adr 1 rfl (ea_cons (R := rLst rInt) (x := l) (ev_dget (hr.lt 1) (ev_var 5) (ev_var 24) el) ea_nil)) (fun as ⟨r, e1, e2⟩ => ⟨_, ⟨st, g, c, 1000 * i + 130 + 61 * i', l, by omega, rfl, rfl, gl, mt x l el, tt x l el, by rw [e2, e1], rfl⟩, fun u ⟨m, hm, hu⟩ => ⟨m, by rw [el]; exact hm, hu⟩⟩)))).imp fun ys ⟨xs, ex, pr⟩ => by
      rw [filter_yes, ex] at pr
      obtain ⟨a, b⟩ := paired_dep (p := fun x m => Slow ((ds.lookup x).getD []) m ∧ m.getD 0 0 ≤ 800) pr
      exact ⟨slowT_of a fun q hq => (b q hq).1, fun q hq => (b q hq).2⟩)) (fun l gl => by rw [gl.1.keys]; exact gt.nd))) (fun us hus => ?_)
    obtain ⟨su, tu⟩ := hus
    have gu := su.good gt
    have hul := gu.sum
    refine ss_set (R := rTable CD CT) (x := tabOf us) 23 sc_law.nd (ev_makeP (Py := fun z => z = tabOf us) DmT (hr.mono (by decide)) (ea_cons (R := rDic (rDaily CD)) (x := us) (ev_dictP (Pl := fun y => y = us) B.dict rfl (EFt.ev ((ef_lc0 (S := rPair rStr (rDaily CD)) (g := fun s => (s, (us.lookup s).getD [])) (own := [("letter", 24)]) rfl sc_law.nd (it_dic (kvs := us) (R := rLst rInt) (by omega) (ev_var 6)) (blkOk_by (by kernel_rfl)) (by decide) (fun _ _ _ _ _ _ => tg_name 24 sc_law.nd)
      (fun _ _ _ _ _ y hy => by
        obtain ⟨m, em⟩ := Option.isSome_iff_exists.mp (lookup_some hy)
        obtain ⟨l, el, sl⟩ := su.back em
        exact ev_is (ev_pair (ea_cons (ev_var 24) (ea_cons (ev_call (y := m) (R := rDaily CD) Dday (hr.mono (by decide)) (ea_cons (ev_dget (x := m) (hr.lt 1) (ev_var 6) (ev_var 24) em) ea_nil) ⟨m, sl.good, sl.mono, rfl, rfl⟩) ea_nil))) (by rw [em]; rfl))).imp fun y e => by rw [e, map_look (fun m => m) gu.nd]; exact List.map_id' _)) (fun l e => by rw [e]; exact gu.nd)) ea_nil) (fun as e => ⟨us, N, gu, e, rfl⟩)) ?_
    refine ss_setP (M1 := MdT [(PT, lamQ)] (MdS st g c (1000 * i + 395))) (R := rStr) (P := fun z => Rel ds z) 22 sc_law.nd (EVt.tab (ev_callS (M1 := MdS st g c (1000 * i + 375)) Drel (hr.mono (by decide)) (ea_adr 1 rfl (ea_consP (M1 := MdS st g c (1000 * i + 374)) (R := rLk) (P := fun y => y = ds) (ev_var 5) (ea_consP (M1 := MdS st g c (1000 * i + 375)) (R := rInt) (P := fun y : Int => 1 ≤ y ∧ y ≤ 12) ((ev_pick 1 rfl Dpick (hr.mono (by decide)) (by omega) (EFt.ev (ef_ints [1, 3, 12] (by rfl))) (by decide)).imp (fun y hy => by simp at hy; omega)) ea_nil)))
      (fun as ⟨r, ⟨y, r2, hy, ⟨y2, r3, hy2, e5, e6⟩, e4⟩, e2⟩ => ⟨_, ⟨st, g, c, 1000 * i + 375, ds, N, y2, by omega, rfl, rfl, gt, hy2, by rw [e2, e4, e6, e5, hy], rfl⟩, fun u hu => hu⟩))) (fun z rl => ?_)
    have rlu := su.rel rl
    refine ss_set (R := rPair (rTup rInt) (rTup rInt)) (x := (lAges ds N z, lAges us N z)) 7 sc_law.nd (ev_pair (ea_cons (ev_tupleL B.tuple (ev_call Dlag (hr.mono (by decide)) (ea_cons (ev_var 5) (ea_cons (ev_var 3) (ea_cons (ev_var 22) ea_nil))) ⟨ds, N, z, gt, rl, rfl, rfl⟩)) (ea_cons (ev_tupleL B.tuple (ev_call Dlag (hr.mono (by decide)) (ea_cons (ev_var 6) (ea_cons (ev_var 3) (ea_cons (ev_var 22) ea_nil))) ⟨us, N, z, gu, rlu, rfl, rfl⟩)) ea_nil))) ?_
    refine ss_weak (Γ' := G1 K CD CT ns st N ds us z) (by repeat' first | exact trivial | exact Or.inr rfl | exact Or.inl rfl | refine And.intro ?_ ?_) ?_
    have tld : Told (.tuple [.tuple ((lAges ds N z).map PyData.int), .tuple ((lAges us N z).map PyData.int)]) := told_tup2 (ints_bd (lAges_bd gt rl)) (ints_bd (lAges_bd gu rlu)) (by rw [len_lAges]; omega) (by rw [len_lAges]; omega)
    have bdc : cBounds K CD CT (MdT [(PT, lamQ)] (MdS st g c (1000 * i + 395))) [.val (rTable CD CT) (tabOf ds), .val (rTable CD CT) (tabOf us), .val (rOd K) (.str z)] (fun u => u = .val (rPair (rTup rInt) (rTup rInt)) (agesBy (tabOf ds) N z, agesBy (tabOf us) N z)) := ⟨tabOf ds, tabOf us, N, z, tab_good gt, tab_good gu, keys_tab gt su, cross_none gt su, tab_rel gt rl, rfl, rfl⟩
    have bde : (agesBy (tabOf ds) N z, agesBy (tabOf us) N z) = (lAges ds N z, lAges us N z) := by rw [ages_tab gt rl, ages_tab gu rlu]
    refine ss_ifn (tw_val (tw_or (t1 := false) (tv_not (t1 := true) (tv_val (ev_callG Dis (hr.mono (by decide)) hgd (ea_cons (R := rPair (rTup rInt) (rTup rInt)) (x := (lAges ds N z, lAges us N z)) (ev_is (ev_call Dbd (hr.mono (by decide)) (ea_cons (ev_var 21) (ea_cons (ev_var 23) (ea_cons (ev_odS (ev_var 22)) ea_nil))) bdc) bde) (ea_cons (R := rPair (rTup rInt) (rTup rInt)) (x := (lAges ds N z, lAges us N z)) (ev_var 7) ea_nil)) ⟨_, _, _, _, _, _, _, hd_pair (hd_tup _ fun _ _ => hd_int) (hd_tup _ fun _ _ => hd_int), hd_pair (hd_tup _ fun _ _ => hd_int) (hd_tup _ fun _ _ => hd_int), tld, rfl, rfl⟩))) fun _ =>
      tw_or1 (tv_not (t1 := true) (tv_val (ev_callG Dis (hr.mono (by decide)) hgd (ea_cons (R := rPair (rTup rInt) (rTup rInt)) (x := (lAges ds N z, lAges us N z)) (ev_is (ev_callK (as' := [.val (rTable CD CT) (tabOf ds), .val (rTable CD CT) (tabOf us), .val (rOd K) (.str z)]) Dbd KBbd (hr.mono (by decide)) (ek_cons (ev_odS (ev_var 22)) (ek_cons (ev_var 23) (ek_cons (ev_var 21) ek_nil))) bdc (fun _ _ h => ord3 h)) bde) (ea_cons (R := rPair (rTup rInt) (rTup rInt)) (x := (lAges ds N z, lAges us N z)) (ev_var 7) ea_nil)) ⟨_, _, _, _, _, _, _, hd_pair (hd_tup _ fun _ _ => hd_int) (hd_tup _ fun _ _ => hd_int), hd_pair (hd_tup _ fun _ _ => hd_int) (hd_tup _ fun _ _ => hd_int), tld, rfl, rfl⟩))))) ?_
    refine ss_forT (R := rInt) (P := fun xs => xs = upto 0 2) (M0 := MdT [(PT, lamQ)] (MdS st g c (1000 * i + 395))) (fun k => MdT [(PT, lamQ)] (MdS st g c (1000 * i + 395 + 240 * k))) (MdT [(PT, lamQ)] (MdS st g c (1000 * i + 875))) PassesOwn.never rfl (it_range1 (i := 2) B.range ev_int (by decide)) (fun _ => tg_name 8 sc_law.nd)
      (fun xs k Γ' => Γ' = G1 K CD CT ns st N ds us z) (fun xs _ => ⟨_, Weak.refl _, rfl⟩) (fun xs k x Γi hxs hz' hx e => ?_) rfl (fun _ => rfl) (fun xs k hxs hk => Le.tab (Le.up (by rw [hxs, upto_len] at hk; omega))) (fun xs Γ' _ e => ?_) (hle := Le.tab (Le.up (by omega)))
    · subst e
      have hk2 : k < 2 := by have := (List.getElem?_eq_some_iff.mp hx).1; rw [hxs, upto_len] at this; exact this
      clear hx hz' hxs
      refine ss_setP (M1 := MdT [(PT, lamQ)] (MdS st g c (1000 * i + 395 + 240 * k + 240))) (R := rLk) (P := fun ms => SlowT ds ms ∧ LeT ms us) 9 sc_law.nd (EVt.tab (ev_dictP (Pl := fun ms => SlowT ds ms ∧ LeT ms us) B.dict rfl (EFt.ev ((ef_lcT (M0 := MdS st g c (1000 * i + 395 + 240 * k)) (N := MdS st g c (1000 * i + 395 + 240 * k + 240)) (P := fun xs => xs = ds.map (·.1)) (S := rPair rStr (rLst rInt)) (pb := fun _ => true) (Py := fun x y => y.1 = x ∧ (fun x m => Slow ((ds.lookup x).getD []) m ∧ LeL m ((us.lookup x).getD [])) x y.2) (fun i' => MdS st g c (1000 * i + 395 + 240 * k + 60 * i')) (own := [("letter", 24)]) rfl sc_law.nd (it_dic (kvs := ds) (R := rLst rInt) (by omega) (ev_var 5)) (blkOk_by (by kernel_rfl)) (by decide) rfl (fun _ => rfl) (fun xs e => Le.up (by rw [e, List.length_map]; omega)) (fun i' => Le.up (by omega)) (fun _ _ _ _ _ _ => tg_name 24 sc_law.nd) (fun _ _ _ _ _ _ _ _ _ _ => ts_nil)
        (fun s1 H1 C1 cl1 fp1 xs i' x ex hx _ => by
          have hi4 : i' < 4 := by have := (List.getElem?_eq_some_iff.mp hx).1; rw [ex, List.length_map] at this; omega
          obtain ⟨l, el⟩ := look (by rw [← ex]; exact List.mem_of_getElem? hx)
          obtain ⟨gl, _⟩ := gt.good x l el
          obtain ⟨u, eu, sl⟩ := su.slow x l el
          exact ev_pairP (M1 := MdS st g c (1000 * i + 395 + 240 * k + 60 * i')) (P := fun y => y = x) (P2 := fun m => Slow ((ds.lookup x).getD []) m ∧ LeL m ((us.lookup x).getD [])) (ev_var 24) (ev_callS (M1 := MdS st g c (1000 * i + 395 + 240 * k + 60 * i')) Dmid (hr.mono (by decide)) (ea_adr 1 rfl (ea_cons (R := rLst rInt) (x := l) (ev_dget (hr.lt 1) (ev_var 5) (ev_var 24) el) (ea_cons (R := rLst rInt) (x := u) (ev_dget (hr.lt 1) (ev_var 6) (ev_var 24) eu) ea_nil))) (fun as ⟨r, e1, e2⟩ => ⟨_, ⟨st, g, c, 1000 * i + 395 + 240 * k + 60 * i', l, u, by omega, rfl, rfl, gl, mt x l el, tt x l el, tu _ (lookup_mem eu), sl, by rw [e2, e1], rfl⟩, fun q ⟨m, hm, hu⟩ => ⟨m, by rw [el, eu]; exact hm, hu⟩⟩)))).imp fun ys ⟨xs, ex, pr⟩ => by
        rw [filter_yes, ex] at pr
        obtain ⟨a, b⟩ := paired_dep (p := fun x m => Slow ((ds.lookup x).getD []) m ∧ LeL m ((us.lookup x).getD [])) pr
        have sm := slowT_of a fun q hq => (b q hq).1
        refine ⟨sm, fun s m hm => ?_⟩
        obtain ⟨l, el, _⟩ := sm.back hm
        obtain ⟨u, eu, _⟩ := su.slow s l el
        have := (b (s, m) (lookup_mem hm)).2
        dsimp only at this
        rw [eu] at this
        exact ⟨u, eu, this⟩)) (fun l gl => by rw [gl.1.keys]; exact gt.nd))) (fun ms hms => ?_)
      obtain ⟨sm, lm⟩ := hms
      have gm := sm.good gt
      have hml := gm.sum
      have rlm := sm.rel rl
      refine ss_set (R := rTup rInt) (x := lAges ms N z) 10 sc_law.nd (ev_is (ev_call Dages (hr.mono (by decide)) (ea_cons (ev_makeP (Py := fun z => z = tabOf ms) DmT (hr.mono (by decide)) (ea_cons (R := rDic (rDaily CD)) (x := ms) (ev_dictP (Pl := fun y => y = ms) B.dict rfl (EFt.ev ((ef_lc0 (S := rPair rStr (rDaily CD)) (g := fun s => (s, (ms.lookup s).getD [])) (own := [("letter", 24)]) rfl sc_law.nd (it_dic (kvs := ms) (R := rLst rInt) (by omega) (ev_var 9)) (blkOk_by (by kernel_rfl)) (by decide) (fun _ _ _ _ _ _ => tg_name 24 sc_law.nd)
        (fun _ _ _ _ _ y hy => by
          obtain ⟨m, em⟩ := Option.isSome_iff_exists.mp (lookup_some hy)
          obtain ⟨l, el, sl⟩ := sm.back em
          exact ev_is (ev_pair (ea_cons (ev_var 24) (ea_cons (ev_call (y := m) (R := rDaily CD) Dday (hr.mono (by decide)) (ea_cons (ev_dget (x := m) (hr.lt 1) (ev_var 9) (ev_var 24) em) ea_nil) ⟨m, sl.good, sl.mono, rfl, rfl⟩) ea_nil))) (by rw [em]; rfl))).imp fun y e => by rw [e, map_look (fun m => m) gm.nd]; exact List.map_id' _)) (fun l e => by rw [e]; exact gm.nd)) ea_nil) (fun as e => ⟨ms, N, gm, e, rfl⟩)) (ea_cons (ev_var 22) ea_nil)) ⟨tabOf ms, N, z, tab_good gm, tab_rel gm rlm, rfl, rfl⟩) (ages_tab gm rlm)) ?_
      refine ss_ifn (tv_is (tv_cmp1 (ev_neLL (xs := []) (ys := []) (hr.lt 64) (EFt.ev (EFt.imp (ef_lc (S := rInt) (pb := fun _ => false) (g := fun _ => 1) (own := [("number", 25)]) rfl sc_law.nd (it_range1 B.range (ev_var 3) (by omega)) (blkOk_by (by kernel_rfl)) (by decide) (fun _ _ _ _ _ _ => tg_name 25 sc_law.nd)
        (fun _ _ _ _ _ y hy => by
          have hy2 := mem_upto hy
          have bt := led_between gt mt su sm lm rl y
          exact ts_one (tv_is (tv_not (t1 := true) (tv_is (tv_chain (f := fun i j => decide (i ≤ j)) (f' := fun i j => decide (i ≤ j)) op_le op_le (ev_ixT (ev_fst (ev_var 7) ev_int) (ev_var 25) (atI_agesM gt rl hy2.1 (by omega))) (ev_ixT (ev_var 10) (ev_var 25) (atI_agesM gm rlm hy2.1 (by omega))) (fun _ => ev_ixT (ev_snd (ev_var 7) ev_int) (ev_var 25) (atI_agesM gu rlu hy2.1 (by omega)))) (by rw [Bool.and_eq_true, decide_eq_true_eq, decide_eq_true_eq]; omega))) rfl)) (fun _ _ _ _ _ y hy _ => ev_int)) (fun y e => by rw [e]; simp))) (EFt.ev (ef_lst (R := rInt) (xs := []) ea_same)))) (by simp)) ?_
      exact ss_nilW (Γ' := G1 K CD CT ns st N ds us z) (by repeat' first | exact trivial | exact Or.inr rfl | exact Or.inl rfl | refine And.intro ?_ ?_) rfl (Le.tab (Le.up (by omega)))
    · subst e
      exact law_rest TB B Q Ef gCR gNR gNL Dnot Dnor Dcau Dword Dbx DmD DmT hr gt gu su rl (by omega) ⟨hN0, by omega⟩ rfl
  · subst e
    exact ss_retV ev_bool rfl
end
end My

namespace My
open PySem L2 RT
theorem Fun.kbinds {K : PySem.W.Frag} {x qual : Str} {st : Stmt} {f : Addr} {fd : FuncData} {ps ks : List Str} (F : Fun K x qual st f fd) (h0 : 0 < ps.length)
    (h : ∀ (kV doc pm : Value) (an : Option Addr) (cdv ct : Value) (ws : List Value), ws.length = ps.length → bindArgs (PySem.W.fnOf x qual (defArgs st) (defBody st) (defScope st) .none kV doc pm an cdv ct) ⟨[], ks.zip ws⟩ = pure (ps.zip ws.reverse)) : KBinds K fd ps ks rv rv := by
  obtain ⟨oc, od, kV, doc, pm, an, cdv, ct, osl, rfl, lk, hcd⟩ := F.ex
  refine ⟨fun s us ws _ hl => ?_, fun r z => rv_rel r z⟩
  cases us with
  | nil =>
    have h1 := h kV doc pm an cdv ct ws (by simpa [rv] using hl)
    have h2 : rv [] ws = ws.reverse := rfl
    rw [h2]
    exact .of_eq h1
  | cons u us => simp [rv] at hl; rw [← hl] at h0; exact absurd h0 (by decide)
set_option maxHeartbeats 0 in
theorem all_mk {l : PySem.W.OpenLaw} {K : PySem.W.Frag} {h : Heap} {w : World} {mg : Str → Option Value} {fa : Addr} (X : K.In h) (G : h.Ns mainGlobals mg) (hfa : mg "law" = some (.ref fa))
    {CD : Addr} {CT : Addr} {OE : Addr} {NT : Addr} {OL : Addr} {NR : Addr} {CR : Addr} {nm_CR q_CR : Str} {N_CR : Addr} {bs_CR sub_CR : List Value} {sn_CR : List Str} {ab_CR : Bool} {col_CR : Option Bool} {dd_CR : Option Addr} {m0_CR m1_CR m2_CR m3_CR m5_CR : Option Value} {f_CR_init : Addr} {od_CR_init an_CR_init : Option Addr} {sl_CR_init : Array (Option Value)} {oc_CR_init kV_CR_init dc_CR_init pm_CR_init ct_CR_init cd_CR_init : Value} {NL : Addr} {nm_NL q_NL : Str} {N_NL : Addr} {bs_NL sub_NL : List Value} {sn_NL : List Str} {ab_NL : Bool} {col_NL : Option Bool} {dd_NL : Option Addr} {m0_NL m1_NL m2_NL m3_NL m5_NL : Option Value} {f_NL_init : Addr} {od_NL_init an_NL_init : Option Addr} {sl_NL_init : Array (Option Value)} {oc_NL_init kV_NL_init dc_NL_init pm_NL_init ct_NL_init cd_NL_init : Value} {f_is_number : Addr} {od_is_number an_is_number : Option Addr} {sl_is_number : Array (Option Value)} {oc_is_number kV_is_number dc_is_number pm_is_number ct_is_number cd_is_number : Value} {f_is_ride : Addr} {od_is_ride an_is_ride : Option Addr} {sl_is_ride : Array (Option Value)} {oc_is_ride kV_is_ride dc_is_ride pm_is_ride ct_is_ride cd_is_ride : Value} {f_is_length : Addr} {od_is_length an_is_length : Option Addr} {sl_is_length : Array (Option Value)} {oc_is_length kV_is_length dc_is_length pm_is_length ct_is_length cd_is_length : Value} {tk_MOST_LENGTH : Tok} {f_need_length : Addr} {od_need_length an_need_length : Option Addr} {sl_need_length : Array (Option Value)} {oc_need_length kV_need_length dc_need_length pm_need_length ct_need_length cd_need_length : Value} {f_need_numbers : Addr} {od_need_numbers an_need_numbers : Option Addr} {sl_need_numbers : Array (Option Value)} {oc_need_numbers kV_need_numbers dc_need_numbers pm_need_numbers ct_need_numbers cd_need_numbers : Value} {f_led_on : Addr} {od_led_on an_led_on : Option Addr} {sl_led_on : Array (Option Value)} {oc_led_on kV_led_on dc_led_on pm_led_on ct_led_on cd_led_on : Value} {f_led_back : Addr} {od_led_back an_led_back : Option Addr} {sl_led_back : Array (Option Value)} {oc_led_back kV_led_back dc_led_back pm_led_back ct_led_back cd_led_back : Value} {f_ends_of : Addr} {od_ends_of an_ends_of : Option Addr} {sl_ends_of : Array (Option Value)} {oc_ends_of kV_ends_of dc_ends_of pm_ends_of ct_ends_of cd_ends_of : Value} {f_CD___init__ : Addr} {od_CD___init__ an_CD___init__ : Option Addr} {sl_CD___init__ : Array (Option Value)} {oc_CD___init__ kV_CD___init__ dc_CD___init__ pm_CD___init__ ct_CD___init__ cd_CD___init__ : Value} {tk_MOST_RIDES : Tok} {p_CD_length : Addr} {r_CD_length : List Value} {f_CD_length : Addr} {od_CD_length an_CD_length : Option Addr} {sl_CD_length : Array (Option Value)} {oc_CD_length kV_CD_length dc_CD_length pm_CD_length ct_CD_length cd_CD_length : Value} {f_CT___init__ : Addr} {od_CT___init__ an_CT___init__ : Option Addr} {sl_CT___init__ : Array (Option Value)} {oc_CT___init__ kV_CT___init__ dc_CT___init__ pm_CT___init__ ct_CT___init__ cd_CT___init__ : Value} {tk_LINKS : Tok} {p_CT_letters : Addr} {r_CT_letters : List Value} {f_CT_letters : Addr} {od_CT_letters an_CT_letters : Option Addr} {sl_CT_letters : Array (Option Value)} {oc_CT_letters kV_CT_letters dc_CT_letters pm_CT_letters ct_CT_letters cd_CT_letters : Value} {p_CT_length : Addr} {r_CT_length : List Value} {f_CT_length : Addr} {od_CT_length an_CT_length : Option Addr} {sl_CT_length : Array (Option Value)} {oc_CT_length kV_CT_length dc_CT_length pm_CT_length ct_CT_length cd_CT_length : Value} {f_CT_need_links : Addr} {od_CT_need_links an_CT_need_links : Option Addr} {sl_CT_need_links : Array (Option Value)} {oc_CT_need_links kV_CT_need_links dc_CT_need_links pm_CT_need_links ct_CT_need_links cd_CT_need_links : Value} {f_CT_led : Addr} {od_CT_led an_CT_led : Option Addr} {sl_CT_led : Array (Option Value)} {oc_CT_led kV_CT_led dc_CT_led pm_CT_led ct_CT_led cd_CT_led : Value} {f_is_row : Addr} {od_is_row an_is_row : Option Addr} {sl_is_row : Array (Option Value)} {oc_is_row kV_is_row dc_is_row pm_is_row ct_is_row cd_is_row : Value} {tk_MOST_STEPS_rows : Tok} {tk_STEPS : Tok} {f_need_daily_table : Addr} {od_need_daily_table an_need_daily_table : Option Addr} {sl_need_daily_table : Array (Option Value)} {oc_need_daily_table kV_need_daily_table dc_need_daily_table pm_need_daily_table ct_need_daily_table cd_need_daily_table : Value} {f_is_relay : Addr} {od_is_relay an_is_relay : Option Addr} {sl_is_relay : Array (Option Value)} {oc_is_relay kV_is_relay dc_is_relay pm_is_relay ct_is_relay cd_is_relay : Value} {tk_MOST_STEPS_ages22 : Tok} {f_need_relay : Addr} {od_need_relay an_need_relay : Option Addr} {sl_need_relay : Array (Option Value)} {oc_need_relay kV_need_relay dc_need_relay pm_need_relay ct_need_relay cd_need_relay : Value} {f_ages_by : Addr} {od_ages_by an_ages_by : Option Addr} {sl_ages_by : Array (Option Value)} {oc_ages_by kV_ages_by dc_ages_by pm_ages_by ct_ages_by cd_ages_by : Value} {f_ages : Addr} {od_ages an_ages : Option Addr} {sl_ages : Array (Option Value)} {oc_ages kV_ages dc_ages pm_ages ct_ages cd_ages : Value} {f__law_begun : Addr} {od__law_begun an__law_begun : Option Addr} {sl__law_begun : Array (Option Value)} {oc__law_begun kV__law_begun dc__law_begun pm__law_begun ct__law_begun cd__law_begun : Value} {f__law_mixed : Addr} {od__law_mixed an__law_mixed : Option Addr} {sl__law_mixed : Array (Option Value)} {oc__law_mixed kV__law_mixed dc__law_mixed pm__law_mixed ct__law_mixed cd__law_mixed : Value} {f__law_draw : Addr} {od__law_draw an__law_draw : Option Addr} {sl__law_draw : Array (Option Value)} {oc__law_draw kV__law_draw dc__law_draw pm__law_draw ct__law_draw cd__law_draw : Value} {f__law_pick : Addr} {od__law_pick an__law_pick : Option Addr} {sl__law_pick : Array (Option Value)} {oc__law_pick kV__law_pick dc__law_pick pm__law_pick ct__law_pick cd__law_pick : Value} {f__law_is : Addr} {od__law_is an__law_is : Option Addr} {sl__law_is : Array (Option Value)} {oc__law_is kV__law_is dc__law_is pm__law_is ct__law_is cd__law_is : Value} {f__law_lead : Addr} {od__law_lead an__law_lead : Option Addr} {sl__law_lead : Array (Option Value)} {oc__law_lead kV__law_lead dc__law_lead pm__law_lead ct__law_lead cd__law_lead : Value} {f__law_back : Addr} {od__law_back an__law_back : Option Addr} {sl__law_back : Array (Option Value)} {oc__law_back kV__law_back dc__law_back pm__law_back ct__law_back cd__law_back : Value} {f__law_ends : Addr} {od__law_ends an__law_ends : Option Addr} {sl__law_ends : Array (Option Value)} {oc__law_ends kV__law_ends dc__law_ends pm__law_ends ct__law_ends cd__law_ends : Value} {f__law_heard : Addr} {od__law_heard an__law_heard : Option Addr} {sl__law_heard : Array (Option Value)} {oc__law_heard kV__law_heard dc__law_heard pm__law_heard ct__law_heard cd__law_heard : Value} {f__law_ages : Addr} {od__law_ages an__law_ages : Option Addr} {sl__law_ages : Array (Option Value)} {oc__law_ages kV__law_ages dc__law_ages pm__law_ages ct__law_ages cd__law_ages : Value} {f__law_made : Addr} {od__law_made an__law_made : Option Addr} {sl__law_made : Array (Option Value)} {oc__law_made kV__law_made dc__law_made pm__law_made ct__law_made cd__law_made : Value} {f__law_shuffled : Addr} {od__law_shuffled an__law_shuffled : Option Addr} {sl__law_shuffled : Array (Option Value)} {oc__law_shuffled kV__law_shuffled dc__law_shuffled pm__law_shuffled ct__law_shuffled cd__law_shuffled : Value} {f__law_rides : Addr} {od__law_rides an__law_rides : Option Addr} {sl__law_rides : Array (Option Value)} {oc__law_rides kV__law_rides dc__law_rides pm__law_rides ct__law_rides cd__law_rides : Value} {f__law_relay : Addr} {od__law_relay an__law_relay : Option Addr} {sl__law_relay : Array (Option Value)} {oc__law_relay kV__law_relay dc__law_relay pm__law_relay ct__law_relay cd__law_relay : Value} {f__law_table : Addr} {od__law_table an__law_table : Option Addr} {sl__law_table : Array (Option Value)} {oc__law_table kV__law_table dc__law_table pm__law_table ct__law_table cd__law_table : Value} {f_CT___getitem__ : Addr} {od_CT___getitem__ an_CT___getitem__ : Option Addr} {sl_CT___getitem__ : Array (Option Value)} {oc_CT___getitem__ kV_CT___getitem__ dc_CT___getitem__ pm_CT___getitem__ ct_CT___getitem__ cd_CT___getitem__ : Value} {f_CD_need_like : Addr} {od_CD_need_like an_CD_need_like : Option Addr} {sl_CD_need_like : Array (Option Value)} {oc_CD_need_like kV_CD_need_like dc_CD_need_like pm_CD_need_like ct_CD_need_like cd_CD_need_like : Value} {f_CD___le__ : Addr} {od_CD___le__ an_CD___le__ : Option Addr} {sl_CD___le__ : Array (Option Value)} {oc_CD___le__ kV_CD___le__ dc_CD___le__ pm_CD___le__ ct_CD___le__ cd_CD___le__ : Value} {f_age_bounds : Addr} {od_age_bounds an_age_bounds : Option Addr} {sl_age_bounds : Array (Option Value)} {oc_age_bounds kV_age_bounds dc_age_bounds pm_age_bounds ct_age_bounds cd_age_bounds : Value} {f__law_caught : Addr} {od__law_caught an__law_caught : Option Addr} {sl__law_caught : Array (Option Value)} {oc__law_caught kV__law_caught dc__law_caught pm__law_caught ct__law_caught cd__law_caught : Value} {f__law_word : Addr} {od__law_word an__law_word : Option Addr} {sl__law_word : Array (Option Value)} {oc__law_word kV__law_word dc__law_word pm__law_word ct__law_word cd__law_word : Value} {f__law_no_table : Addr} {od__law_no_table an__law_no_table : Option Addr} {sl__law_no_table : Array (Option Value)} {oc__law_no_table kV__law_no_table dc__law_no_table pm__law_no_table ct__law_no_table cd__law_no_table : Value} {f__law_no_relay : Addr} {od__law_no_relay an__law_no_relay : Option Addr} {sl__law_no_relay : Array (Option Value)} {oc__law_no_relay kV__law_no_relay dc__law_no_relay pm__law_no_relay ct__law_no_relay cd__law_no_relay : Value} {f__law_daily : Addr} {od__law_daily an__law_daily : Option Addr} {sl__law_daily : Array (Option Value)} {oc__law_daily kV__law_daily dc__law_daily pm__law_daily ct__law_daily cd__law_daily : Value} {f__law_slower : Addr} {od__law_slower an__law_slower : Option Addr} {sl__law_slower : Array (Option Value)} {oc__law_slower kV__law_slower dc__law_slower pm__law_slower ct__law_slower cd__law_slower : Value} {f__law_middle : Addr} {od__law_middle an__law_middle : Option Addr} {sl__law_middle : Array (Option Value)} {oc__law_middle kV__law_middle dc__law_middle pm__law_middle ct__law_middle cd__law_middle : Value} {f_law : Addr} {od_law an_law : Option Addr} {sl_law : Array (Option Value)} {oc_law kV_law dc_law pm_law ct_law : Value} {cc_law PT : Addr}
    (o_get : PySem.W.specialIn K (.builtin "object.__class__") "__get__" = some (some (.builtin "getset_descriptor.__get__")))
    (o_tak : PySem.W.takesIn K (.builtin "object.__class__") = some true)
    (a_CD : PySem.W.nsIn K mainGlobals "Daily" = some (some (.ref CD)))
    (pg_CD : PySem.W.plainGet K CD Str.empty = true)
    (hd_CD : PySem.W.hasDictIn K CD = true)
    (po_CD : PySem.W.plainOver K CD = true)
    (sa_CD : PySem.W.findIn K (.ref CD) "__setattr__" = some (some (.builtin "object.__setattr__")))
    (ha_CD : PySem.W.findIn K (.ref CD) "__class__" = some (some (.builtin "object.__class__")))
    (hm_CD : PySem.W.mroIn K CD (.type "object") = some true)
    (mk_CD : PySem.W.makesIn K CD = true)
    (kc_CD : PySem.W.keepIn K (.ref CD) = true)
    (n0_CD : PySem.W.findIn K (.ref CD) "own_ends" = some none)
    (a_CT : PySem.W.nsIn K mainGlobals "DailyTable" = some (some (.ref CT)))
    (pg_CT : PySem.W.plainGet K CT Str.empty = true)
    (hd_CT : PySem.W.hasDictIn K CT = true)
    (po_CT : PySem.W.plainOver K CT = true)
    (sa_CT : PySem.W.findIn K (.ref CT) "__setattr__" = some (some (.builtin "object.__setattr__")))
    (ha_CT : PySem.W.findIn K (.ref CT) "__class__" = some (some (.builtin "object.__class__")))
    (hm_CT : PySem.W.mroIn K CT (.type "object") = some true)
    (mk_CT : PySem.W.makesIn K CT = true)
    (kc_CT : PySem.W.keepIn K (.ref CT) = true)
    (n0_CT : PySem.W.findIn K (.ref CT) "own_links" = some none)
    (z_len : PySem.W.nsIn K mainGlobals "len" = some none)
    (z_range : PySem.W.nsIn K mainGlobals "range" = some none)
    (z_min : PySem.W.nsIn K mainGlobals "min" = some none)
    (z_max : PySem.W.nsIn K mainGlobals "max" = some none)
    (z_sum : PySem.W.nsIn K mainGlobals "sum" = some none)
    (z_all : PySem.W.nsIn K mainGlobals "all" = some none)
    (z_any : PySem.W.nsIn K mainGlobals "any" = some none)
    (z_abs : PySem.W.nsIn K mainGlobals "abs" = some none)
    (z_int : PySem.W.nsIn K mainGlobals "int" = some none)
    (z_bool : PySem.W.nsIn K mainGlobals "bool" = some none)
    (z_str : PySem.W.nsIn K mainGlobals "str" = some none)
    (z_list : PySem.W.nsIn K mainGlobals "list" = some none)
    (z_tuple : PySem.W.nsIn K mainGlobals "tuple" = some none)
    (z_dict : PySem.W.nsIn K mainGlobals "dict" = some none)
    (z_sorted : PySem.W.nsIn K mainGlobals "sorted" = some none)
    (z_enumerate : PySem.W.nsIn K mainGlobals "enumerate" = some none)
    (z_zip : PySem.W.nsIn K mainGlobals "zip" = some none)
    (z_repr : PySem.W.nsIn K mainGlobals "repr" = some none)
    (z_isinstance : PySem.W.nsIn K mainGlobals "isinstance" = some none)
    (a_OE : PySem.W.nsIn K mainGlobals "OrderError" = some (some (.ref OE)))
    (e_OE : PySem.W.subIn K (.ref OE) (.type "BaseException") = some true)
    (i_OE : PySem.W.isClsIn K OE = true)
    (t_OE : PySem.W.typeIn K (.ref OE) = some (.type "type"))
    (r_OE : PySem.W.readsIn K OE (.type "type") = true)
    (g_OE : PySem.W.specialIn K (.ref OE) "__getattribute__" = some (some (.builtin "type.__getattribute__")))
    (v_OE : PySem.W.findCls K (.ref OE) (.type "type") "__init__" = some (.val (.builtin "ValueError.__init__")))
    (a_NT : PySem.W.nsIn K mainGlobals "NoTable" = some (some (.ref NT)))
    (e_NT : PySem.W.subIn K (.ref NT) (.type "BaseException") = some true)
    (i_NT : PySem.W.isClsIn K NT = true)
    (t_NT : PySem.W.typeIn K (.ref NT) = some (.type "type"))
    (o_NT : PySem.W.subIn K (.ref NT) (.ref OE) = some true)
    (k_NT : PySem.W.keepIn K (.ref NT) = true)
    (ga_NT : PySem.W.findIn K (.ref NT) "__getattribute__" = some (some (.builtin "BaseException.__getattribute__")))
    (gg_NT : PySem.W.findIn K (.ref NT) "__getattr__" = some none)
    (hd_NT : PySem.W.hasDictIn K NT = true)
    (ha_NT : PySem.W.findIn K (.ref NT) "__class__" = some (some (.builtin "object.__class__")))
    (hm_NT : PySem.W.mroIn K NT (.type "object") = some true)
    (x0_NT : PySem.W.excIn K NT [.type "ValueError", .type "Exception", .type "BaseException", .type "object"] "ValueError.__new__" = true)
    (a_OL : PySem.W.nsIn K mainGlobals "OtherLength" = some (some (.ref OL)))
    (e_OL : PySem.W.subIn K (.ref OL) (.type "BaseException") = some true)
    (i_OL : PySem.W.isClsIn K OL = true)
    (t_OL : PySem.W.typeIn K (.ref OL) = some (.type "type"))
    (o_OL : PySem.W.subIn K (.ref OL) (.ref OE) = some true)
    (k_OL : PySem.W.keepIn K (.ref OL) = true)
    (ga_OL : PySem.W.findIn K (.ref OL) "__getattribute__" = some (some (.builtin "BaseException.__getattribute__")))
    (gg_OL : PySem.W.findIn K (.ref OL) "__getattr__" = some none)
    (hd_OL : PySem.W.hasDictIn K OL = true)
    (ha_OL : PySem.W.findIn K (.ref OL) "__class__" = some (some (.builtin "object.__class__")))
    (hm_OL : PySem.W.mroIn K OL (.type "object") = some true)
    (x0_OL : PySem.W.excIn K OL [.type "ValueError", .type "Exception", .type "BaseException", .type "object"] "ValueError.__new__" = true)
    (a_NR : PySem.W.nsIn K mainGlobals "NoRow" = some (some (.ref NR)))
    (e_NR : PySem.W.subIn K (.ref NR) (.type "BaseException") = some true)
    (i_NR : PySem.W.isClsIn K NR = true)
    (t_NR : PySem.W.typeIn K (.ref NR) = some (.type "type"))
    (o_NR : PySem.W.subIn K (.ref NR) (.ref OE) = some true)
    (k_NR : PySem.W.keepIn K (.ref NR) = true)
    (ga_NR : PySem.W.findIn K (.ref NR) "__getattribute__" = some (some (.builtin "BaseException.__getattribute__")))
    (gg_NR : PySem.W.findIn K (.ref NR) "__getattr__" = some none)
    (hd_NR : PySem.W.hasDictIn K NR = true)
    (ha_NR : PySem.W.findIn K (.ref NR) "__class__" = some (some (.builtin "object.__class__")))
    (hm_NR : PySem.W.mroIn K NR (.type "object") = some true)
    (x0_NR : PySem.W.excIn K NR [.type "ValueError", .type "Exception", .type "BaseException", .type "object"] "ValueError.__new__" = true)
    (a_CR : PySem.W.nsIn K mainGlobals "Crossed" = some (some (.ref CR)))
    (e_CR : PySem.W.subIn K (.ref CR) (.type "BaseException") = some true)
    (i_CR : PySem.W.isClsIn K CR = true)
    (t_CR : PySem.W.typeIn K (.ref CR) = some (.type "type"))
    (o_CR : PySem.W.subIn K (.ref CR) (.ref OE) = some true)
    (k_CR : PySem.W.keepIn K (.ref CR) = true)
    (ga_CR : PySem.W.findIn K (.ref CR) "__getattribute__" = some (some (.builtin "BaseException.__getattribute__")))
    (gg_CR : PySem.W.findIn K (.ref CR) "__getattr__" = some none)
    (hd_CR : PySem.W.hasDictIn K CR = true)
    (ha_CR : PySem.W.findIn K (.ref CR) "__class__" = some (some (.builtin "object.__class__")))
    (hm_CR : PySem.W.mroIn K CR (.type "object") = some true)
    (xl_CR : K.lookup CR = some (excClassObj nm_CR q_CR CR N_CR bs_CR [.ref OE, .type "ValueError", .type "Exception", .type "BaseException", .type "object"] true sn_CR sub_CR ab_CR col_CR dd_CR m0_CR m1_CR m2_CR m3_CR m5_CR "ValueError.__new__"))
    (sa_CR : PySem.W.findIn K (.ref CR) "__setattr__" = some (some (.builtin "object.__setattr__")))
    (nf_CR : PySem.W.findIn K (.ref CR) "letter" = some none)
    (a_CR_init : PySem.W.findIn K (.ref CR) "__init__" = some (some (.ref f_CR_init)))
    (t_CR_init : PySem.W.typeIn K (.ref f_CR_init) = some (.type "function"))
    (l_CR_init : K.lookup f_CR_init = some ⟨oc_CR_init, od_CR_init, .func (PySem.W.fnOf "__init__" "Crossed.__init__" (defArgs (inClass (top 11) 0)) (defBody (inClass (top 11) 0)) (defScope (inClass (top 11) 0)) .none kV_CR_init dc_CR_init pm_CR_init an_CR_init cd_CR_init ct_CR_init), sl_CR_init⟩)
    (c_CR_init : PySem.W.codeIn K cd_CR_init "Crossed.__init__" = true)
    (k_CR_init : PySem.W.keepIn K (.ref f_CR_init) = true)
    (a_NL : PySem.W.nsIn K mainGlobals "NoLink" = some (some (.ref NL)))
    (e_NL : PySem.W.subIn K (.ref NL) (.type "BaseException") = some true)
    (i_NL : PySem.W.isClsIn K NL = true)
    (t_NL : PySem.W.typeIn K (.ref NL) = some (.type "type"))
    (o_NL : PySem.W.subIn K (.ref NL) (.ref OE) = some true)
    (k_NL : PySem.W.keepIn K (.ref NL) = true)
    (ga_NL : PySem.W.findIn K (.ref NL) "__getattribute__" = some (some (.builtin "BaseException.__getattribute__")))
    (gg_NL : PySem.W.findIn K (.ref NL) "__getattr__" = some none)
    (hd_NL : PySem.W.hasDictIn K NL = true)
    (ha_NL : PySem.W.findIn K (.ref NL) "__class__" = some (some (.builtin "object.__class__")))
    (hm_NL : PySem.W.mroIn K NL (.type "object") = some true)
    (xl_NL : K.lookup NL = some (excClassObj nm_NL q_NL NL N_NL bs_NL [.ref OE, .type "ValueError", .type "Exception", .type "BaseException", .type "object"] true sn_NL sub_NL ab_NL col_NL dd_NL m0_NL m1_NL m2_NL m3_NL m5_NL "ValueError.__new__"))
    (sa_NL : PySem.W.findIn K (.ref NL) "__setattr__" = some (some (.builtin "object.__setattr__")))
    (nf_NL : PySem.W.findIn K (.ref NL) "letter" = some none)
    (a_NL_init : PySem.W.findIn K (.ref NL) "__init__" = some (some (.ref f_NL_init)))
    (t_NL_init : PySem.W.typeIn K (.ref f_NL_init) = some (.type "function"))
    (l_NL_init : K.lookup f_NL_init = some ⟨oc_NL_init, od_NL_init, .func (PySem.W.fnOf "__init__" "NoLink.__init__" (defArgs (inClass (top 7) 0)) (defBody (inClass (top 7) 0)) (defScope (inClass (top 7) 0)) .none kV_NL_init dc_NL_init pm_NL_init an_NL_init cd_NL_init ct_NL_init), sl_NL_init⟩)
    (c_NL_init : PySem.W.codeIn K cd_NL_init "NoLink.__init__" = true)
    (k_NL_init : PySem.W.keepIn K (.ref f_NL_init) = true)
    (u_NT_OL : PySem.W.subIn K (.ref NT) (.ref OL) = some false)
    (u_NT_NR : PySem.W.subIn K (.ref NT) (.ref NR) = some false)
    (u_OL_NT : PySem.W.subIn K (.ref OL) (.ref NT) = some false)
    (u_OL_NR : PySem.W.subIn K (.ref OL) (.ref NR) = some false)
    (u_NR_NT : PySem.W.subIn K (.ref NR) (.ref NT) = some false)
    (u_NR_OL : PySem.W.subIn K (.ref NR) (.ref OL) = some false)
    (i_CT : PySem.W.isClsIn K CT = true)
    (t_CT : PySem.W.typeIn K (.ref CT) = some (.type "type"))
    (y_NoneType : PySem.W.subIn K (.type "NoneType") (.ref CT) = some false)
    (y_int : PySem.W.subIn K (.type "int") (.ref CT) = some false)
    (y_dict : PySem.W.subIn K (.type "dict") (.ref CT) = some false)
    (y_str : PySem.W.subIn K (.type "str") (.ref CT) = some false)
    (y_tuple : PySem.W.subIn K (.type "tuple") (.ref CT) = some false)
    (y_bool : PySem.W.subIn K (.type "bool") (.ref CT) = some false)
    (a_is_number : PySem.W.nsIn K mainGlobals "is_number" = some (some (.ref f_is_number)))
    (l_is_number : K.lookup f_is_number = some ⟨oc_is_number, od_is_number, .func (PySem.W.fnOf "is_number" "is_number" (defArgs (top 13)) (defBody (top 13)) (defScope (top 13)) .none kV_is_number dc_is_number pm_is_number an_is_number cd_is_number ct_is_number), sl_is_number⟩)
    (c_is_number : PySem.W.codeIn K cd_is_number "is_number" = true)
    (k_is_number : PySem.W.keepIn K (.ref f_is_number) = true)
    (a_is_ride : PySem.W.nsIn K mainGlobals "is_ride" = some (some (.ref f_is_ride)))
    (l_is_ride : K.lookup f_is_ride = some ⟨oc_is_ride, od_is_ride, .func (PySem.W.fnOf "is_ride" "is_ride" (defArgs (top 14)) (defBody (top 14)) (defScope (top 14)) .none kV_is_ride dc_is_ride pm_is_ride an_is_ride cd_is_ride ct_is_ride), sl_is_ride⟩)
    (c_is_ride : PySem.W.codeIn K cd_is_ride "is_ride" = true)
    (k_is_ride : PySem.W.keepIn K (.ref f_is_ride) = true)
    (a_is_length : PySem.W.nsIn K mainGlobals "is_length" = some (some (.ref f_is_length)))
    (l_is_length : K.lookup f_is_length = some ⟨oc_is_length, od_is_length, .func (PySem.W.fnOf "is_length" "is_length" (defArgs (top 18)) (defBody (top 18)) (defScope (top 18)) .none kV_is_length dc_is_length pm_is_length an_is_length cd_is_length ct_is_length), sl_is_length⟩)
    (c_is_length : PySem.W.codeIn K cd_is_length "is_length" = true)
    (k_is_length : PySem.W.keepIn K (.ref f_is_length) = true)
    (a_MOST_LENGTH : PySem.W.nsIn K mainGlobals "MOST_LENGTH" = some (some (.int 60 tk_MOST_LENGTH)))
    (a_need_length : PySem.W.nsIn K mainGlobals "need_length" = some (some (.ref f_need_length)))
    (l_need_length : K.lookup f_need_length = some ⟨oc_need_length, od_need_length, .func (PySem.W.fnOf "need_length" "need_length" (defArgs (top 19)) (defBody (top 19)) (defScope (top 19)) .none kV_need_length dc_need_length pm_need_length an_need_length cd_need_length ct_need_length), sl_need_length⟩)
    (c_need_length : PySem.W.codeIn K cd_need_length "need_length" = true)
    (k_need_length : PySem.W.keepIn K (.ref f_need_length) = true)
    (a_need_numbers : PySem.W.nsIn K mainGlobals "need_numbers" = some (some (.ref f_need_numbers)))
    (l_need_numbers : K.lookup f_need_numbers = some ⟨oc_need_numbers, od_need_numbers, .func (PySem.W.fnOf "need_numbers" "need_numbers" (defArgs (top 20)) (defBody (top 20)) (defScope (top 20)) .none kV_need_numbers dc_need_numbers pm_need_numbers an_need_numbers cd_need_numbers ct_need_numbers), sl_need_numbers⟩)
    (c_need_numbers : PySem.W.codeIn K cd_need_numbers "need_numbers" = true)
    (k_need_numbers : PySem.W.keepIn K (.ref f_need_numbers) = true)
    (a_led_on : PySem.W.nsIn K mainGlobals "led_on" = some (some (.ref f_led_on)))
    (l_led_on : K.lookup f_led_on = some ⟨oc_led_on, od_led_on, .func (PySem.W.fnOf "led_on" "led_on" (defArgs (top 21)) (defBody (top 21)) (defScope (top 21)) .none kV_led_on dc_led_on pm_led_on an_led_on cd_led_on ct_led_on), sl_led_on⟩)
    (c_led_on : PySem.W.codeIn K cd_led_on "led_on" = true)
    (k_led_on : PySem.W.keepIn K (.ref f_led_on) = true)
    (a_led_back : PySem.W.nsIn K mainGlobals "led_back" = some (some (.ref f_led_back)))
    (l_led_back : K.lookup f_led_back = some ⟨oc_led_back, od_led_back, .func (PySem.W.fnOf "led_back" "led_back" (defArgs (top 22)) (defBody (top 22)) (defScope (top 22)) .none kV_led_back dc_led_back pm_led_back an_led_back cd_led_back ct_led_back), sl_led_back⟩)
    (c_led_back : PySem.W.codeIn K cd_led_back "led_back" = true)
    (k_led_back : PySem.W.keepIn K (.ref f_led_back) = true)
    (a_ends_of : PySem.W.nsIn K mainGlobals "ends_of" = some (some (.ref f_ends_of)))
    (l_ends_of : K.lookup f_ends_of = some ⟨oc_ends_of, od_ends_of, .func (PySem.W.fnOf "ends_of" "ends_of" (defArgs (top 23)) (defBody (top 23)) (defScope (top 23)) .none kV_ends_of dc_ends_of pm_ends_of an_ends_of cd_ends_of ct_ends_of), sl_ends_of⟩)
    (c_ends_of : PySem.W.codeIn K cd_ends_of "ends_of" = true)
    (k_ends_of : PySem.W.keepIn K (.ref f_ends_of) = true)
    (a_CD___init__ : PySem.W.findIn K (.ref CD) "__init__" = some (some (.ref f_CD___init__)))
    (i_CD___init__ : PySem.W.isFn K (.ref f_CD___init__) = true)
    (l_CD___init__ : K.lookup f_CD___init__ = some ⟨oc_CD___init__, od_CD___init__, .func (PySem.W.fnOf "__init__" "Daily.__init__" (defArgs (inClass (top 25) 0)) (defBody (inClass (top 25) 0)) (defScope (inClass (top 25) 0)) .none kV_CD___init__ dc_CD___init__ pm_CD___init__ an_CD___init__ cd_CD___init__ ct_CD___init__), sl_CD___init__⟩)
    (c_CD___init__ : PySem.W.codeIn K cd_CD___init__ "Daily.__init__" = true)
    (k_CD___init__ : PySem.W.keepIn K (.ref f_CD___init__) = true)
    (a_MOST_RIDES : PySem.W.nsIn K mainGlobals "MOST_RIDES" = some (some (.int 60 tk_MOST_RIDES)))
    (a_CD_length : PySem.W.findIn K (.ref CD) "length" = some (some (.ref p_CD_length)))
    (g_CD_length : PySem.W.specialIn K (.ref p_CD_length) "__get__" = some (some (.builtin "property.__get__")))
    (t_CD_length : PySem.W.takesIn K (.ref p_CD_length) = some true)
    (e_CD_length : PySem.W.recIn K p_CD_length "property" = some (.ref f_CD_length :: r_CD_length))
    (l_CD_length : K.lookup f_CD_length = some ⟨oc_CD_length, od_CD_length, .func (PySem.W.fnOf "length" "Daily.length" (defArgs (inClass (top 25) 1)) (defBody (inClass (top 25) 1)) (defScope (inClass (top 25) 1)) .none kV_CD_length dc_CD_length pm_CD_length an_CD_length cd_CD_length ct_CD_length), sl_CD_length⟩)
    (c_CD_length : PySem.W.codeIn K cd_CD_length "Daily.length" = true)
    (k_CD_length : PySem.W.keepIn K (.ref f_CD_length) = true)
    (a_CT___init__ : PySem.W.findIn K (.ref CT) "__init__" = some (some (.ref f_CT___init__)))
    (i_CT___init__ : PySem.W.isFn K (.ref f_CT___init__) = true)
    (l_CT___init__ : K.lookup f_CT___init__ = some ⟨oc_CT___init__, od_CT___init__, .func (PySem.W.fnOf "__init__" "DailyTable.__init__" (defArgs (inClass (top 43) 0)) (defBody (inClass (top 43) 0)) (defScope (inClass (top 43) 0)) .none kV_CT___init__ dc_CT___init__ pm_CT___init__ an_CT___init__ cd_CT___init__ ct_CT___init__), sl_CT___init__⟩)
    (c_CT___init__ : PySem.W.codeIn K cd_CT___init__ "DailyTable.__init__" = true)
    (k_CT___init__ : PySem.W.keepIn K (.ref f_CT___init__) = true)
    (a_LINKS : PySem.W.nsIn K mainGlobals "LINKS" = some (some (.str "abcd" tk_LINKS)))
    (a_CT_letters : PySem.W.findIn K (.ref CT) "letters" = some (some (.ref p_CT_letters)))
    (g_CT_letters : PySem.W.specialIn K (.ref p_CT_letters) "__get__" = some (some (.builtin "property.__get__")))
    (t_CT_letters : PySem.W.takesIn K (.ref p_CT_letters) = some true)
    (e_CT_letters : PySem.W.recIn K p_CT_letters "property" = some (.ref f_CT_letters :: r_CT_letters))
    (l_CT_letters : K.lookup f_CT_letters = some ⟨oc_CT_letters, od_CT_letters, .func (PySem.W.fnOf "letters" "DailyTable.letters" (defArgs (inClass (top 43) 1)) (defBody (inClass (top 43) 1)) (defScope (inClass (top 43) 1)) .none kV_CT_letters dc_CT_letters pm_CT_letters an_CT_letters cd_CT_letters ct_CT_letters), sl_CT_letters⟩)
    (c_CT_letters : PySem.W.codeIn K cd_CT_letters "DailyTable.letters" = true)
    (k_CT_letters : PySem.W.keepIn K (.ref f_CT_letters) = true)
    (a_CT_length : PySem.W.findIn K (.ref CT) "length" = some (some (.ref p_CT_length)))
    (g_CT_length : PySem.W.specialIn K (.ref p_CT_length) "__get__" = some (some (.builtin "property.__get__")))
    (t_CT_length : PySem.W.takesIn K (.ref p_CT_length) = some true)
    (e_CT_length : PySem.W.recIn K p_CT_length "property" = some (.ref f_CT_length :: r_CT_length))
    (l_CT_length : K.lookup f_CT_length = some ⟨oc_CT_length, od_CT_length, .func (PySem.W.fnOf "length" "DailyTable.length" (defArgs (inClass (top 43) 2)) (defBody (inClass (top 43) 2)) (defScope (inClass (top 43) 2)) .none kV_CT_length dc_CT_length pm_CT_length an_CT_length cd_CT_length ct_CT_length), sl_CT_length⟩)
    (c_CT_length : PySem.W.codeIn K cd_CT_length "DailyTable.length" = true)
    (k_CT_length : PySem.W.keepIn K (.ref f_CT_length) = true)
    (a_CT_need_links : PySem.W.findIn K (.ref CT) "need_links" = some (some (.ref f_CT_need_links)))
    (i_CT_need_links : PySem.W.isFn K (.ref f_CT_need_links) = true)
    (l_CT_need_links : K.lookup f_CT_need_links = some ⟨oc_CT_need_links, od_CT_need_links, .func (PySem.W.fnOf "need_links" "DailyTable.need_links" (defArgs (inClass (top 43) 6)) (defBody (inClass (top 43) 6)) (defScope (inClass (top 43) 6)) .none kV_CT_need_links dc_CT_need_links pm_CT_need_links an_CT_need_links cd_CT_need_links ct_CT_need_links), sl_CT_need_links⟩)
    (c_CT_need_links : PySem.W.codeIn K cd_CT_need_links "DailyTable.need_links" = true)
    (k_CT_need_links : PySem.W.keepIn K (.ref f_CT_need_links) = true)
    (a_CT_led : PySem.W.findIn K (.ref CT) "led" = some (some (.ref f_CT_led)))
    (i_CT_led : PySem.W.isFn K (.ref f_CT_led) = true)
    (l_CT_led : K.lookup f_CT_led = some ⟨oc_CT_led, od_CT_led, .func (PySem.W.fnOf "led" "DailyTable.led" (defArgs (inClass (top 43) 7)) (defBody (inClass (top 43) 7)) (defScope (inClass (top 43) 7)) .none kV_CT_led dc_CT_led pm_CT_led an_CT_led cd_CT_led ct_CT_led), sl_CT_led⟩)
    (c_CT_led : PySem.W.codeIn K cd_CT_led "DailyTable.led" = true)
    (k_CT_led : PySem.W.keepIn K (.ref f_CT_led) = true)
    (a_is_row : PySem.W.nsIn K mainGlobals "is_row" = some (some (.ref f_is_row)))
    (l_is_row : K.lookup f_is_row = some ⟨oc_is_row, od_is_row, .func (PySem.W.fnOf "is_row" "is_row" (defArgs (top 30)) (defBody (top 30)) (defScope (top 30)) .none kV_is_row dc_is_row pm_is_row an_is_row cd_is_row ct_is_row), sl_is_row⟩)
    (c_is_row : PySem.W.codeIn K cd_is_row "is_row" = true)
    (k_is_row : PySem.W.keepIn K (.ref f_is_row) = true)
    (a_MOST_STEPS_rows : PySem.W.nsIn K mainGlobals "MOST_STEPS_rows" = some (some (.int 60 tk_MOST_STEPS_rows)))
    (a_STEPS : PySem.W.nsIn K mainGlobals "STEPS" = some (some (.str "ABCDabcd" tk_STEPS)))
    (a_need_daily_table : PySem.W.nsIn K mainGlobals "need_daily_table" = some (some (.ref f_need_daily_table)))
    (l_need_daily_table : K.lookup f_need_daily_table = some ⟨oc_need_daily_table, od_need_daily_table, .func (PySem.W.fnOf "need_daily_table" "need_daily_table" (defArgs (top 40)) (defBody (top 40)) (defScope (top 40)) .none kV_need_daily_table dc_need_daily_table pm_need_daily_table an_need_daily_table cd_need_daily_table ct_need_daily_table), sl_need_daily_table⟩)
    (c_need_daily_table : PySem.W.codeIn K cd_need_daily_table "need_daily_table" = true)
    (k_need_daily_table : PySem.W.keepIn K (.ref f_need_daily_table) = true)
    (a_is_relay : PySem.W.nsIn K mainGlobals "is_relay" = some (some (.ref f_is_relay)))
    (l_is_relay : K.lookup f_is_relay = some ⟨oc_is_relay, od_is_relay, .func (PySem.W.fnOf "is_relay" "is_relay" (defArgs (top 46)) (defBody (top 46)) (defScope (top 46)) .none kV_is_relay dc_is_relay pm_is_relay an_is_relay cd_is_relay ct_is_relay), sl_is_relay⟩)
    (c_is_relay : PySem.W.codeIn K cd_is_relay "is_relay" = true)
    (k_is_relay : PySem.W.keepIn K (.ref f_is_relay) = true)
    (a_MOST_STEPS_ages22 : PySem.W.nsIn K mainGlobals "MOST_STEPS_ages22" = some (some (.int 12 tk_MOST_STEPS_ages22)))
    (a_need_relay : PySem.W.nsIn K mainGlobals "need_relay" = some (some (.ref f_need_relay)))
    (l_need_relay : K.lookup f_need_relay = some ⟨oc_need_relay, od_need_relay, .func (PySem.W.fnOf "need_relay" "need_relay" (defArgs (top 47)) (defBody (top 47)) (defScope (top 47)) .none kV_need_relay dc_need_relay pm_need_relay an_need_relay cd_need_relay ct_need_relay), sl_need_relay⟩)
    (c_need_relay : PySem.W.codeIn K cd_need_relay "need_relay" = true)
    (k_need_relay : PySem.W.keepIn K (.ref f_need_relay) = true)
    (a_ages_by : PySem.W.nsIn K mainGlobals "ages_by" = some (some (.ref f_ages_by)))
    (l_ages_by : K.lookup f_ages_by = some ⟨oc_ages_by, od_ages_by, .func (PySem.W.fnOf "ages_by" "ages_by" (defArgs (top 48)) (defBody (top 48)) (defScope (top 48)) .none kV_ages_by dc_ages_by pm_ages_by an_ages_by cd_ages_by ct_ages_by), sl_ages_by⟩)
    (c_ages_by : PySem.W.codeIn K cd_ages_by "ages_by" = true)
    (k_ages_by : PySem.W.keepIn K (.ref f_ages_by) = true)
    (a_ages : PySem.W.nsIn K mainGlobals "ages" = some (some (.ref f_ages)))
    (l_ages : K.lookup f_ages = some ⟨oc_ages, od_ages, .func (PySem.W.fnOf "ages" "ages" (defArgs (top 49)) (defBody (top 49)) (defScope (top 49)) .none kV_ages dc_ages pm_ages an_ages cd_ages ct_ages), sl_ages⟩)
    (c_ages : PySem.W.codeIn K cd_ages "ages" = true)
    (k_ages : PySem.W.keepIn K (.ref f_ages) = true)
    (a__law_begun : PySem.W.nsIn K mainGlobals "_law_begun" = some (some (.ref f__law_begun)))
    (l__law_begun : K.lookup f__law_begun = some ⟨oc__law_begun, od__law_begun, .func (PySem.W.fnOf "_law_begun" "_law_begun" (defArgs (top 52)) (defBody (top 52)) (defScope (top 52)) .none kV__law_begun dc__law_begun pm__law_begun an__law_begun cd__law_begun ct__law_begun), sl__law_begun⟩)
    (c__law_begun : PySem.W.codeIn K cd__law_begun "_law_begun" = true)
    (k__law_begun : PySem.W.keepIn K (.ref f__law_begun) = true)
    (a__law_mixed : PySem.W.nsIn K mainGlobals "_law_mixed" = some (some (.ref f__law_mixed)))
    (l__law_mixed : K.lookup f__law_mixed = some ⟨oc__law_mixed, od__law_mixed, .func (PySem.W.fnOf "_law_mixed" "_law_mixed" (defArgs (top 53)) (defBody (top 53)) (defScope (top 53)) .none kV__law_mixed dc__law_mixed pm__law_mixed an__law_mixed cd__law_mixed ct__law_mixed), sl__law_mixed⟩)
    (c__law_mixed : PySem.W.codeIn K cd__law_mixed "_law_mixed" = true)
    (k__law_mixed : PySem.W.keepIn K (.ref f__law_mixed) = true)
    (a__law_draw : PySem.W.nsIn K mainGlobals "_law_draw" = some (some (.ref f__law_draw)))
    (l__law_draw : K.lookup f__law_draw = some ⟨oc__law_draw, od__law_draw, .func (PySem.W.fnOf "_law_draw" "_law_draw" (defArgs (top 54)) (defBody (top 54)) (defScope (top 54)) .none kV__law_draw dc__law_draw pm__law_draw an__law_draw cd__law_draw ct__law_draw), sl__law_draw⟩)
    (c__law_draw : PySem.W.codeIn K cd__law_draw "_law_draw" = true)
    (k__law_draw : PySem.W.keepIn K (.ref f__law_draw) = true)
    (a__law_pick : PySem.W.nsIn K mainGlobals "_law_pick" = some (some (.ref f__law_pick)))
    (l__law_pick : K.lookup f__law_pick = some ⟨oc__law_pick, od__law_pick, .func (PySem.W.fnOf "_law_pick" "_law_pick" (defArgs (top 55)) (defBody (top 55)) (defScope (top 55)) .none kV__law_pick dc__law_pick pm__law_pick an__law_pick cd__law_pick ct__law_pick), sl__law_pick⟩)
    (c__law_pick : PySem.W.codeIn K cd__law_pick "_law_pick" = true)
    (k__law_pick : PySem.W.keepIn K (.ref f__law_pick) = true)
    (a__law_is : PySem.W.nsIn K mainGlobals "_law_is" = some (some (.ref f__law_is)))
    (l__law_is : K.lookup f__law_is = some ⟨oc__law_is, od__law_is, .func (PySem.W.fnOf "_law_is" "_law_is" (defArgs (top 57)) (defBody (top 57)) (defScope (top 57)) .none kV__law_is dc__law_is pm__law_is an__law_is cd__law_is ct__law_is), sl__law_is⟩)
    (c__law_is : PySem.W.codeIn K cd__law_is "_law_is" = true)
    (k__law_is : PySem.W.keepIn K (.ref f__law_is) = true)
    (a__law_lead : PySem.W.nsIn K mainGlobals "_law_lead" = some (some (.ref f__law_lead)))
    (l__law_lead : K.lookup f__law_lead = some ⟨oc__law_lead, od__law_lead, .func (PySem.W.fnOf "_law_lead" "_law_lead" (defArgs (top 61)) (defBody (top 61)) (defScope (top 61)) .none kV__law_lead dc__law_lead pm__law_lead an__law_lead cd__law_lead ct__law_lead), sl__law_lead⟩)
    (c__law_lead : PySem.W.codeIn K cd__law_lead "_law_lead" = true)
    (k__law_lead : PySem.W.keepIn K (.ref f__law_lead) = true)
    (a__law_back : PySem.W.nsIn K mainGlobals "_law_back" = some (some (.ref f__law_back)))
    (l__law_back : K.lookup f__law_back = some ⟨oc__law_back, od__law_back, .func (PySem.W.fnOf "_law_back" "_law_back" (defArgs (top 62)) (defBody (top 62)) (defScope (top 62)) .none kV__law_back dc__law_back pm__law_back an__law_back cd__law_back ct__law_back), sl__law_back⟩)
    (c__law_back : PySem.W.codeIn K cd__law_back "_law_back" = true)
    (k__law_back : PySem.W.keepIn K (.ref f__law_back) = true)
    (a__law_ends : PySem.W.nsIn K mainGlobals "_law_ends" = some (some (.ref f__law_ends)))
    (l__law_ends : K.lookup f__law_ends = some ⟨oc__law_ends, od__law_ends, .func (PySem.W.fnOf "_law_ends" "_law_ends" (defArgs (top 60)) (defBody (top 60)) (defScope (top 60)) .none kV__law_ends dc__law_ends pm__law_ends an__law_ends cd__law_ends ct__law_ends), sl__law_ends⟩)
    (c__law_ends : PySem.W.codeIn K cd__law_ends "_law_ends" = true)
    (k__law_ends : PySem.W.keepIn K (.ref f__law_ends) = true)
    (a__law_heard : PySem.W.nsIn K mainGlobals "_law_heard" = some (some (.ref f__law_heard)))
    (l__law_heard : K.lookup f__law_heard = some ⟨oc__law_heard, od__law_heard, .func (PySem.W.fnOf "_law_heard" "_law_heard" (defArgs (top 66)) (defBody (top 66)) (defScope (top 66)) .none kV__law_heard dc__law_heard pm__law_heard an__law_heard cd__law_heard ct__law_heard), sl__law_heard⟩)
    (c__law_heard : PySem.W.codeIn K cd__law_heard "_law_heard" = true)
    (k__law_heard : PySem.W.keepIn K (.ref f__law_heard) = true)
    (a__law_ages : PySem.W.nsIn K mainGlobals "_law_ages" = some (some (.ref f__law_ages)))
    (l__law_ages : K.lookup f__law_ages = some ⟨oc__law_ages, od__law_ages, .func (PySem.W.fnOf "_law_ages" "_law_ages" (defArgs (top 67)) (defBody (top 67)) (defScope (top 67)) .none kV__law_ages dc__law_ages pm__law_ages an__law_ages cd__law_ages ct__law_ages), sl__law_ages⟩)
    (c__law_ages : PySem.W.codeIn K cd__law_ages "_law_ages" = true)
    (k__law_ages : PySem.W.keepIn K (.ref f__law_ages) = true)
    (a__law_made : PySem.W.nsIn K mainGlobals "_law_made" = some (some (.ref f__law_made)))
    (l__law_made : K.lookup f__law_made = some ⟨oc__law_made, od__law_made, .func (PySem.W.fnOf "_law_made" "_law_made" (defArgs (top 64)) (defBody (top 64)) (defScope (top 64)) .none kV__law_made dc__law_made pm__law_made an__law_made cd__law_made ct__law_made), sl__law_made⟩)
    (c__law_made : PySem.W.codeIn K cd__law_made "_law_made" = true)
    (k__law_made : PySem.W.keepIn K (.ref f__law_made) = true)
    (a__law_shuffled : PySem.W.nsIn K mainGlobals "_law_shuffled" = some (some (.ref f__law_shuffled)))
    (l__law_shuffled : K.lookup f__law_shuffled = some ⟨oc__law_shuffled, od__law_shuffled, .func (PySem.W.fnOf "_law_shuffled" "_law_shuffled" (defArgs (top 56)) (defBody (top 56)) (defScope (top 56)) .none kV__law_shuffled dc__law_shuffled pm__law_shuffled an__law_shuffled cd__law_shuffled ct__law_shuffled), sl__law_shuffled⟩)
    (c__law_shuffled : PySem.W.codeIn K cd__law_shuffled "_law_shuffled" = true)
    (k__law_shuffled : PySem.W.keepIn K (.ref f__law_shuffled) = true)
    (a__law_rides : PySem.W.nsIn K mainGlobals "_law_rides" = some (some (.ref f__law_rides)))
    (l__law_rides : K.lookup f__law_rides = some ⟨oc__law_rides, od__law_rides, .func (PySem.W.fnOf "_law_rides" "_law_rides" (defArgs (top 59)) (defBody (top 59)) (defScope (top 59)) .none kV__law_rides dc__law_rides pm__law_rides an__law_rides cd__law_rides ct__law_rides), sl__law_rides⟩)
    (c__law_rides : PySem.W.codeIn K cd__law_rides "_law_rides" = true)
    (k__law_rides : PySem.W.keepIn K (.ref f__law_rides) = true)
    (a__law_relay : PySem.W.nsIn K mainGlobals "_law_relay" = some (some (.ref f__law_relay)))
    (l__law_relay : K.lookup f__law_relay = some ⟨oc__law_relay, od__law_relay, .func (PySem.W.fnOf "_law_relay" "_law_relay" (defArgs (top 65)) (defBody (top 65)) (defScope (top 65)) .none kV__law_relay dc__law_relay pm__law_relay an__law_relay cd__law_relay ct__law_relay), sl__law_relay⟩)
    (c__law_relay : PySem.W.codeIn K cd__law_relay "_law_relay" = true)
    (k__law_relay : PySem.W.keepIn K (.ref f__law_relay) = true)
    (a__law_table : PySem.W.nsIn K mainGlobals "_law_table" = some (some (.ref f__law_table)))
    (l__law_table : K.lookup f__law_table = some ⟨oc__law_table, od__law_table, .func (PySem.W.fnOf "_law_table" "_law_table" (defArgs (top 63)) (defBody (top 63)) (defScope (top 63)) .none kV__law_table dc__law_table pm__law_table an__law_table cd__law_table ct__law_table), sl__law_table⟩)
    (c__law_table : PySem.W.codeIn K cd__law_table "_law_table" = true)
    (k__law_table : PySem.W.keepIn K (.ref f__law_table) = true)
    (a_CT___getitem__ : PySem.W.findIn K (.ref CT) "__getitem__" = some (some (.ref f_CT___getitem__)))
    (i_CT___getitem__ : PySem.W.isFn K (.ref f_CT___getitem__) = true)
    (j_CT___getitem__ : PySem.W.fnIn K f_CT___getitem__ = true)
    (l_CT___getitem__ : K.lookup f_CT___getitem__ = some ⟨oc_CT___getitem__, od_CT___getitem__, .func (PySem.W.fnOf "__getitem__" "DailyTable.__getitem__" (defArgs (inClass (top 43) 3)) (defBody (inClass (top 43) 3)) (defScope (inClass (top 43) 3)) .none kV_CT___getitem__ dc_CT___getitem__ pm_CT___getitem__ an_CT___getitem__ cd_CT___getitem__ ct_CT___getitem__), sl_CT___getitem__⟩)
    (c_CT___getitem__ : PySem.W.codeIn K cd_CT___getitem__ "DailyTable.__getitem__" = true)
    (k_CT___getitem__ : PySem.W.keepIn K (.ref f_CT___getitem__) = true)
    (a_CD_need_like : PySem.W.findIn K (.ref CD) "need_like" = some (some (.ref f_CD_need_like)))
    (i_CD_need_like : PySem.W.isFn K (.ref f_CD_need_like) = true)
    (l_CD_need_like : K.lookup f_CD_need_like = some ⟨oc_CD_need_like, od_CD_need_like, .func (PySem.W.fnOf "need_like" "Daily.need_like" (defArgs (inClass (top 25) 5)) (defBody (inClass (top 25) 5)) (defScope (inClass (top 25) 5)) .none kV_CD_need_like dc_CD_need_like pm_CD_need_like an_CD_need_like cd_CD_need_like ct_CD_need_like), sl_CD_need_like⟩)
    (c_CD_need_like : PySem.W.codeIn K cd_CD_need_like "Daily.need_like" = true)
    (k_CD_need_like : PySem.W.keepIn K (.ref f_CD_need_like) = true)
    (a_CD___le__ : PySem.W.findIn K (.ref CD) "__le__" = some (some (.ref f_CD___le__)))
    (i_CD___le__ : PySem.W.isFn K (.ref f_CD___le__) = true)
    (l_CD___le__ : K.lookup f_CD___le__ = some ⟨oc_CD___le__, od_CD___le__, .func (PySem.W.fnOf "__le__" "Daily.__le__" (defArgs (inClass (top 25) 11)) (defBody (inClass (top 25) 11)) (defScope (inClass (top 25) 11)) .none kV_CD___le__ dc_CD___le__ pm_CD___le__ an_CD___le__ cd_CD___le__ ct_CD___le__), sl_CD___le__⟩)
    (c_CD___le__ : PySem.W.codeIn K cd_CD___le__ "Daily.__le__" = true)
    (k_CD___le__ : PySem.W.keepIn K (.ref f_CD___le__) = true)
    (a_age_bounds : PySem.W.nsIn K mainGlobals "age_bounds" = some (some (.ref f_age_bounds)))
    (l_age_bounds : K.lookup f_age_bounds = some ⟨oc_age_bounds, od_age_bounds, .func (PySem.W.fnOf "age_bounds" "age_bounds" (defArgs (top 50)) (defBody (top 50)) (defScope (top 50)) .none kV_age_bounds dc_age_bounds pm_age_bounds an_age_bounds cd_age_bounds ct_age_bounds), sl_age_bounds⟩)
    (c_age_bounds : PySem.W.codeIn K cd_age_bounds "age_bounds" = true)
    (k_age_bounds : PySem.W.keepIn K (.ref f_age_bounds) = true)
    (a__law_caught : PySem.W.nsIn K mainGlobals "_law_caught" = some (some (.ref f__law_caught)))
    (l__law_caught : K.lookup f__law_caught = some ⟨oc__law_caught, od__law_caught, .func (PySem.W.fnOf "_law_caught" "_law_caught" (defArgs (top 58)) (defBody (top 58)) (defScope (top 58)) .none kV__law_caught dc__law_caught pm__law_caught an__law_caught cd__law_caught ct__law_caught), sl__law_caught⟩)
    (c__law_caught : PySem.W.codeIn K cd__law_caught "_law_caught" = true)
    (k__law_caught : PySem.W.keepIn K (.ref f__law_caught) = true)
    (a__law_word : PySem.W.nsIn K mainGlobals "_law_word" = some (some (.ref f__law_word)))
    (l__law_word : K.lookup f__law_word = some ⟨oc__law_word, od__law_word, .func (PySem.W.fnOf "_law_word" "_law_word" (defArgs (top 73)) (defBody (top 73)) (defScope (top 73)) .none kV__law_word dc__law_word pm__law_word an__law_word cd__law_word ct__law_word), sl__law_word⟩)
    (c__law_word : PySem.W.codeIn K cd__law_word "_law_word" = true)
    (k__law_word : PySem.W.keepIn K (.ref f__law_word) = true)
    (a__law_no_table : PySem.W.nsIn K mainGlobals "_law_no_table" = some (some (.ref f__law_no_table)))
    (l__law_no_table : K.lookup f__law_no_table = some ⟨oc__law_no_table, od__law_no_table, .func (PySem.W.fnOf "_law_no_table" "_law_no_table" (defArgs (top 69)) (defBody (top 69)) (defScope (top 69)) .none kV__law_no_table dc__law_no_table pm__law_no_table an__law_no_table cd__law_no_table ct__law_no_table), sl__law_no_table⟩)
    (c__law_no_table : PySem.W.codeIn K cd__law_no_table "_law_no_table" = true)
    (k__law_no_table : PySem.W.keepIn K (.ref f__law_no_table) = true)
    (a__law_no_relay : PySem.W.nsIn K mainGlobals "_law_no_relay" = some (some (.ref f__law_no_relay)))
    (l__law_no_relay : K.lookup f__law_no_relay = some ⟨oc__law_no_relay, od__law_no_relay, .func (PySem.W.fnOf "_law_no_relay" "_law_no_relay" (defArgs (top 68)) (defBody (top 68)) (defScope (top 68)) .none kV__law_no_relay dc__law_no_relay pm__law_no_relay an__law_no_relay cd__law_no_relay ct__law_no_relay), sl__law_no_relay⟩)
    (c__law_no_relay : PySem.W.codeIn K cd__law_no_relay "_law_no_relay" = true)
    (k__law_no_relay : PySem.W.keepIn K (.ref f__law_no_relay) = true)
    (a__law_daily : PySem.W.nsIn K mainGlobals "_law_daily" = some (some (.ref f__law_daily)))
    (l__law_daily : K.lookup f__law_daily = some ⟨oc__law_daily, od__law_daily, .func (PySem.W.fnOf "_law_daily" "_law_daily" (defArgs (top 70)) (defBody (top 70)) (defScope (top 70)) .none kV__law_daily dc__law_daily pm__law_daily an__law_daily cd__law_daily ct__law_daily), sl__law_daily⟩)
    (c__law_daily : PySem.W.codeIn K cd__law_daily "_law_daily" = true)
    (k__law_daily : PySem.W.keepIn K (.ref f__law_daily) = true)
    (a__law_slower : PySem.W.nsIn K mainGlobals "_law_slower" = some (some (.ref f__law_slower)))
    (l__law_slower : K.lookup f__law_slower = some ⟨oc__law_slower, od__law_slower, .func (PySem.W.fnOf "_law_slower" "_law_slower" (defArgs (top 71)) (defBody (top 71)) (defScope (top 71)) .none kV__law_slower dc__law_slower pm__law_slower an__law_slower cd__law_slower ct__law_slower), sl__law_slower⟩)
    (c__law_slower : PySem.W.codeIn K cd__law_slower "_law_slower" = true)
    (k__law_slower : PySem.W.keepIn K (.ref f__law_slower) = true)
    (a__law_middle : PySem.W.nsIn K mainGlobals "_law_middle" = some (some (.ref f__law_middle)))
    (l__law_middle : K.lookup f__law_middle = some ⟨oc__law_middle, od__law_middle, .func (PySem.W.fnOf "_law_middle" "_law_middle" (defArgs (top 72)) (defBody (top 72)) (defScope (top 72)) .none kV__law_middle dc__law_middle pm__law_middle an__law_middle cd__law_middle ct__law_middle), sl__law_middle⟩)
    (c__law_middle : PySem.W.codeIn K cd__law_middle "_law_middle" = true)
    (k__law_middle : PySem.W.keepIn K (.ref f__law_middle) = true)
    (a_law : PySem.W.nsIn K mainGlobals "law" = some (some (.ref f_law)))
    (l_law : K.lookup f_law = some ⟨oc_law, od_law, .func (PySem.W.fnOf "law" "law" (defArgs (top 74)) (defBody (top 74)) (defScope (top 74)) .none kV_law dc_law pm_law an_law (.ref cc_law) ct_law), sl_law⟩)
    (c_law : PySem.W.codeIn K (.ref cc_law) "law" = true)
    (k_law : PySem.W.keepIn K (.ref f_law) = true)
    (d_NT_OL : (Value.ref NT == Value.ref OL) = false)
    (d_NT_NR : (Value.ref NT == Value.ref NR) = false)
    (d_OL_NT : (Value.ref OL == Value.ref NT) = false)
    (d_OL_NR : (Value.ref OL == Value.ref NR) = false)
    (d_NR_NT : (Value.ref NR == Value.ref NT) = false)
    (d_NR_OL : (Value.ref NR == Value.ref OL) = false)
    : ∃ fd : FuncData, (∀ (s : Shared) (v : Value), BindsTo s fd ⟨[v], []⟩ [("script", v)]) ∧ ∀ base : Heap, K.In base → base.Ns mainGlobals mg → (∀ p ∈ ([(cc_law, PT)] : List (Addr × Addr)), LamX.TabB base mg p.1 p.2) → FnG l.prog w K mg base 10 fa fd ["script"] (spC (cLawT K PT)) := by
  have e := hfa.symm.trans (PySem.W.mg_of X G a_law)
  cases e
  have m_CD := PySem.W.mg_of X G a_CD
  have cl_CD : Cls K CD := ⟨pg_CD, hd_CD, po_CD, sa_CD⟩
  have ci_CD : ClsI K CD := ⟨cl_CD, ha_CD, o_get, o_tak, hm_CD⟩
  have m_CT := PySem.W.mg_of X G a_CT
  have cl_CT : Cls K CT := ⟨pg_CT, hd_CT, po_CT, sa_CT⟩
  have ci_CT : ClsI K CT := ⟨cl_CT, ha_CT, o_get, o_tak, hm_CT⟩
  have B : Bn mg := ⟨PySem.W.mg_none_of X G z_len, PySem.W.mg_none_of X G z_range, PySem.W.mg_none_of X G z_min, PySem.W.mg_none_of X G z_max, PySem.W.mg_none_of X G z_sum, PySem.W.mg_none_of X G z_all, PySem.W.mg_none_of X G z_any, PySem.W.mg_none_of X G z_abs, PySem.W.mg_none_of X G z_int, PySem.W.mg_none_of X G z_bool, PySem.W.mg_none_of X G z_str, PySem.W.mg_none_of X G z_list, PySem.W.mg_none_of X G z_tuple, PySem.W.mg_none_of X G z_dict, PySem.W.mg_none_of X G z_sorted, PySem.W.mg_none_of X G z_enumerate, PySem.W.mg_none_of X G z_zip, PySem.W.mg_none_of X G z_repr, PySem.W.mg_none_of X G z_isinstance⟩
  have Q : Kls K mg CD CT := ⟨ci_CD, ci_CT, n0_CD, n0_CT, m_CD, m_CT⟩
  have m_OE := PySem.W.mg_of X G a_OE
  have O_OE : ErO K mg OE := ⟨m_OE, r_OE, g_OE, v_OE⟩
  have m_NT := PySem.W.mg_of X G a_NT
  have T_NT : ExcC K NT := ⟨ga_NT, gg_NT, e_NT, hd_NT, ha_NT, o_get, o_tak, hm_NT⟩
  have W_NT : XfC K NT := ⟨ga_NT, gg_NT, e_NT, hd_NT⟩
  have x_NT := exm_of e_OE i_OE t_OE o_NT
  have E_NT : ErC0 K NT := ⟨x0_NT, k_NT, e_NT, t_NT⟩
  have m_OL := PySem.W.mg_of X G a_OL
  have T_OL : ExcC K OL := ⟨ga_OL, gg_OL, e_OL, hd_OL, ha_OL, o_get, o_tak, hm_OL⟩
  have W_OL : XfC K OL := ⟨ga_OL, gg_OL, e_OL, hd_OL⟩
  have x_OL := exm_of e_OE i_OE t_OE o_OL
  have E_OL : ErC0 K OL := ⟨x0_OL, k_OL, e_OL, t_OL⟩
  have m_NR := PySem.W.mg_of X G a_NR
  have T_NR : ExcC K NR := ⟨ga_NR, gg_NR, e_NR, hd_NR, ha_NR, o_get, o_tak, hm_NR⟩
  have W_NR : XfC K NR := ⟨ga_NR, gg_NR, e_NR, hd_NR⟩
  have x_NR := exm_of e_OE i_OE t_OE o_NR
  have E_NR : ErC0 K NR := ⟨x0_NR, k_NR, e_NR, t_NR⟩
  have m_CR := PySem.W.mg_of X G a_CR
  have T_CR : ExcC K CR := ⟨ga_CR, gg_CR, e_CR, hd_CR, ha_CR, o_get, o_tak, hm_CR⟩
  have W_CR : XfC K CR := ⟨ga_CR, gg_CR, e_CR, hd_CR⟩
  have x_CR := exm_of e_OE i_OE t_OE o_CR
  have F_CR_init := fun_mk (st := inClass (top 11) 0) l_CR_init c_CR_init k_CR_init
  have b_CR_init := F_CR_init.binds (ps := ["self", "letter"]) fun _ _ _ _ _ _ us hl => match us, hl with | [_, _], _ => rfl
  have ox_CR : OexC K CR := ⟨⟨nm_CR, q_CR, N_CR, bs_CR, _, sn_CR, sub_CR, ab_CR, col_CR, dd_CR, m0_CR, m1_CR, m2_CR, m3_CR, m5_CR, xl_CR, rfl⟩, sa_CR, e_CR, t_CR, k_CR⟩
  have S_CR : FnScope ["self", "letter"] ["self", "letter"] (defScope (inClass (top 11) 0)) := ⟨rfl, rfl, rfl, by decide +kernel, rfl, by decide +kernel, by decide +kernel⟩
  have m_NL := PySem.W.mg_of X G a_NL
  have T_NL : ExcC K NL := ⟨ga_NL, gg_NL, e_NL, hd_NL, ha_NL, o_get, o_tak, hm_NL⟩
  have W_NL : XfC K NL := ⟨ga_NL, gg_NL, e_NL, hd_NL⟩
  have x_NL := exm_of e_OE i_OE t_OE o_NL
  have F_NL_init := fun_mk (st := inClass (top 7) 0) l_NL_init c_NL_init k_NL_init
  have b_NL_init := F_NL_init.binds (ps := ["self", "letter"]) fun _ _ _ _ _ _ us hl => match us, hl with | [_, _], _ => rfl
  have ox_NL : OexC K NL := ⟨⟨nm_NL, q_NL, N_NL, bs_NL, _, sn_NL, sub_NL, ab_NL, col_NL, dd_NL, m0_NL, m1_NL, m2_NL, m3_NL, m5_NL, xl_NL, rfl⟩, sa_NL, e_NL, t_NL, k_NL⟩
  have S_NL : FnScope ["self", "letter"] ["self", "letter"] (defScope (inClass (top 7) 0)) := ⟨rfl, rfl, rfl, by decide +kernel, rfl, by decide +kernel, by decide +kernel⟩
  have k_NT_OL : PySem.W.kitOne K (.ref NT) (.ref OL) = some false := kit_of d_NT_OL i_OL t_OL u_NT_OL
  have k_NT_NR : PySem.W.kitOne K (.ref NT) (.ref NR) = some false := kit_of d_NT_NR i_NR t_NR u_NT_NR
  have k_OL_NT : PySem.W.kitOne K (.ref OL) (.ref NT) = some false := kit_of d_OL_NT i_NT t_NT u_OL_NT
  have k_OL_NR : PySem.W.kitOne K (.ref OL) (.ref NR) = some false := kit_of d_OL_NR i_NR t_NR u_OL_NR
  have k_NR_NT : PySem.W.kitOne K (.ref NR) (.ref NT) = some false := kit_of d_NR_NT i_NT t_NT u_NR_NT
  have k_NR_OL : PySem.W.kitOne K (.ref NR) (.ref OL) = some false := kit_of d_NR_OL i_OL t_OL u_NR_OL
  have n_NoneType : PySem.W.kitOne K (.type "NoneType") (.ref CT) = some false := kit_of rfl i_CT t_CT y_NoneType
  have n_int : PySem.W.kitOne K (.type "int") (.ref CT) = some false := kit_of rfl i_CT t_CT y_int
  have n_dict : PySem.W.kitOne K (.type "dict") (.ref CT) = some false := kit_of rfl i_CT t_CT y_dict
  have n_str : PySem.W.kitOne K (.type "str") (.ref CT) = some false := kit_of rfl i_CT t_CT y_str
  have n_tuple : PySem.W.kitOne K (.type "tuple") (.ref CT) = some false := kit_of rfl i_CT t_CT y_tuple
  have n_bool : PySem.W.kitOne K (.type "bool") (.ref CT) = some false := kit_of rfl i_CT t_CT y_bool
  have Ef : ErF K OE NT OL CR NR NL CT := ⟨x_NT, x_OL, x_CR, x_NR, x_NL, T_NT, T_OL, T_CR, T_NR, T_NL, W_CR, W_NL, nf_CR, nf_NL, k_NT_OL, k_NT_NR, k_OL_NT, k_OL_NR, k_NR_NT, k_NR_OL, fun t ht => by
    simp only [noTys, List.mem_cons, List.mem_nil_iff, or_false] at ht
    rcases ht with rfl | rfl | rfl | rfl | rfl | rfl
    · exact n_NoneType
    · exact n_int
    · exact n_dict
    · exact n_str
    · exact n_tuple
    · exact n_bool⟩
  have F_is_number := fun_mk (st := top 13) l_is_number c_is_number k_is_number
  have b_is_number := F_is_number.binds (ps := ["thing"]) fun _ _ _ _ _ _ us hl => match us, hl with | [_], _ => rfl
  have m_is_number := PySem.W.mg_of X G a_is_number
  have F_is_ride := fun_mk (st := top 14) l_is_ride c_is_ride k_is_ride
  have b_is_ride := F_is_ride.binds (ps := ["thing"]) fun _ _ _ _ _ _ us hl => match us, hl with | [_], _ => rfl
  have m_is_ride := PySem.W.mg_of X G a_is_ride
  have F_is_length := fun_mk (st := top 18) l_is_length c_is_length k_is_length
  have b_is_length := F_is_length.binds (ps := ["thing"]) fun _ _ _ _ _ _ us hl => match us, hl with | [_], _ => rfl
  have m_is_length := PySem.W.mg_of X G a_is_length
  have m_MOST_LENGTH := PySem.W.mg_of X G a_MOST_LENGTH
  have F_need_length := fun_mk (st := top 19) l_need_length c_need_length k_need_length
  have b_need_length := F_need_length.binds (ps := ["length"]) fun _ _ _ _ _ _ us hl => match us, hl with | [_], _ => rfl
  have m_need_length := PySem.W.mg_of X G a_need_length
  have F_need_numbers := fun_mk (st := top 20) l_need_numbers c_need_numbers k_need_numbers
  have m_need_numbers := PySem.W.mg_of X G a_need_numbers
  have F_led_on := fun_mk (st := top 21) l_led_on c_led_on k_led_on
  have b_led_on := F_led_on.binds (ps := ["ends", "number"]) fun _ _ _ _ _ _ us hl => match us, hl with | [_, _], _ => rfl
  have m_led_on := PySem.W.mg_of X G a_led_on
  have F_led_back := fun_mk (st := top 22) l_led_back c_led_back k_led_back
  have b_led_back := F_led_back.binds (ps := ["ends", "number"]) fun _ _ _ _ _ _ us hl => match us, hl with | [_, _], _ => rfl
  have m_led_back := PySem.W.mg_of X G a_led_back
  have F_ends_of := fun_mk (st := top 23) l_ends_of c_ends_of k_ends_of
  have b_ends_of := F_ends_of.binds (ps := ["length", "rides"]) fun _ _ _ _ _ _ us hl => match us, hl with | [_, _], _ => rfl
  have m_ends_of := PySem.W.mg_of X G a_ends_of
  have F_CD___init__ := fun_mk (st := inClass (top 25) 0) l_CD___init__ c_CD___init__ k_CD___init__
  have b_CD___init__ := F_CD___init__.binds (ps := ["self", "length", "rides"]) fun _ _ _ _ _ _ us hl => match us, hl with | [_, _, _], _ => rfl
  have m_MOST_RIDES := PySem.W.mg_of X G a_MOST_RIDES
  have F_CD_length := fun_mk (st := inClass (top 25) 1) l_CD_length c_CD_length k_CD_length
  have b_CD_length := F_CD_length.binds (ps := ["self"]) fun _ _ _ _ _ _ us hl => match us, hl with | [_], _ => rfl
  have F_CT___init__ := fun_mk (st := inClass (top 43) 0) l_CT___init__ c_CT___init__ k_CT___init__
  have b_CT___init__ := F_CT___init__.binds (ps := ["self", "dailies"]) fun _ _ _ _ _ _ us hl => match us, hl with | [_, _], _ => rfl
  have m_LINKS := PySem.W.mg_of X G a_LINKS
  have F_CT_letters := fun_mk (st := inClass (top 43) 1) l_CT_letters c_CT_letters k_CT_letters
  have b_CT_letters := F_CT_letters.binds (ps := ["self"]) fun _ _ _ _ _ _ us hl => match us, hl with | [_], _ => rfl
  have F_CT_length := fun_mk (st := inClass (top 43) 2) l_CT_length c_CT_length k_CT_length
  have b_CT_length := F_CT_length.binds (ps := ["self"]) fun _ _ _ _ _ _ us hl => match us, hl with | [_], _ => rfl
  have F_CT_need_links := fun_mk (st := inClass (top 43) 6) l_CT_need_links c_CT_need_links k_CT_need_links
  have b_CT_need_links := F_CT_need_links.binds (ps := ["self", "steps"]) fun _ _ _ _ _ _ us hl => match us, hl with | [_, _], _ => rfl
  have F_CT_led := fun_mk (st := inClass (top 43) 7) l_CT_led c_CT_led k_CT_led
  have b_CT_led := F_CT_led.binds (ps := ["self", "row", "number"]) fun _ _ _ _ _ _ us hl => match us, hl with | [_, _, _], _ => rfl
  have F_is_row := fun_mk (st := top 30) l_is_row c_is_row k_is_row
  have b_is_row := F_is_row.binds (ps := ["thing"]) fun _ _ _ _ _ _ us hl => match us, hl with | [_], _ => rfl
  have m_is_row := PySem.W.mg_of X G a_is_row
  have m_MOST_STEPS_rows := PySem.W.mg_of X G a_MOST_STEPS_rows
  have m_STEPS := PySem.W.mg_of X G a_STEPS
  have F_need_daily_table := fun_mk (st := top 40) l_need_daily_table c_need_daily_table k_need_daily_table
  have b_need_daily_table := F_need_daily_table.binds (ps := ["table"]) fun _ _ _ _ _ _ us hl => match us, hl with | [_], _ => rfl
  have m_need_daily_table := PySem.W.mg_of X G a_need_daily_table
  have F_is_relay := fun_mk (st := top 46) l_is_relay c_is_relay k_is_relay
  have b_is_relay := F_is_relay.binds (ps := ["thing"]) fun _ _ _ _ _ _ us hl => match us, hl with | [_], _ => rfl
  have m_is_relay := PySem.W.mg_of X G a_is_relay
  have m_MOST_STEPS_ages22 := PySem.W.mg_of X G a_MOST_STEPS_ages22
  have F_need_relay := fun_mk (st := top 47) l_need_relay c_need_relay k_need_relay
  have b_need_relay := F_need_relay.binds (ps := ["table", "relay"]) fun _ _ _ _ _ _ us hl => match us, hl with | [_, _], _ => rfl
  have m_need_relay := PySem.W.mg_of X G a_need_relay
  have F_ages_by := fun_mk (st := top 48) l_ages_by c_ages_by k_ages_by
  have b_ages_by := F_ages_by.binds (ps := ["table", "relay"]) fun _ _ _ _ _ _ us hl => match us, hl with | [_, _], _ => rfl
  have m_ages_by := PySem.W.mg_of X G a_ages_by
  have F_ages := fun_mk (st := top 49) l_ages c_ages k_ages
  have b_ages := F_ages.binds (ps := ["table", "relay"]) fun _ _ _ _ _ _ us hl => match us, hl with | [_, _], _ => rfl
  have m_ages := PySem.W.mg_of X G a_ages
  have F__law_begun := fun_mk (st := top 52) l__law_begun c__law_begun k__law_begun
  have b__law_begun := F__law_begun.binds (ps := ["script"]) fun _ _ _ _ _ _ us hl => match us, hl with | [_], _ => rfl
  have m__law_begun := PySem.W.mg_of X G a__law_begun
  have F__law_mixed := fun_mk (st := top 53) l__law_mixed c__law_mixed k__law_mixed
  have b__law_mixed := F__law_mixed.binds (ps := ["state"]) fun _ _ _ _ _ _ us hl => match us, hl with | [_], _ => rfl
  have m__law_mixed := PySem.W.mg_of X G a__law_mixed
  have F__law_draw := fun_mk (st := top 54) l__law_draw c__law_draw k__law_draw
  have b__law_draw := F__law_draw.binds (ps := ["state", "room"]) fun _ _ _ _ _ _ us hl => match us, hl with | [_, _], _ => rfl
  have m__law_draw := PySem.W.mg_of X G a__law_draw
  have F__law_pick := fun_mk (st := top 55) l__law_pick c__law_pick k__law_pick
  have b__law_pick := F__law_pick.binds (ps := ["state", "some"]) fun _ _ _ _ _ _ us hl => match us, hl with | [_, _], _ => rfl
  have m__law_pick := PySem.W.mg_of X G a__law_pick
  have F__law_is := fun_mk (st := top 57) l__law_is c__law_is k__law_is
  have b__law_is := F__law_is.binds (ps := ["found", "due"]) fun _ _ _ _ _ _ us hl => match us, hl with | [_, _], _ => rfl
  have m__law_is := PySem.W.mg_of X G a__law_is
  have F__law_lead := fun_mk (st := top 61) l__law_lead c__law_lead k__law_lead
  have b__law_lead := F__law_lead.binds (ps := ["ends", "number"]) fun _ _ _ _ _ _ us hl => match us, hl with | [_, _], _ => rfl
  have m__law_lead := PySem.W.mg_of X G a__law_lead
  have F__law_back := fun_mk (st := top 62) l__law_back c__law_back k__law_back
  have b__law_back := F__law_back.binds (ps := ["ends", "number"]) fun _ _ _ _ _ _ us hl => match us, hl with | [_, _], _ => rfl
  have m__law_back := PySem.W.mg_of X G a__law_back
  have F__law_ends := fun_mk (st := top 60) l__law_ends c__law_ends k__law_ends
  have b__law_ends := F__law_ends.binds (ps := ["length", "rides"]) fun _ _ _ _ _ _ us hl => match us, hl with | [_, _], _ => rfl
  have m__law_ends := PySem.W.mg_of X G a__law_ends
  have F__law_heard := fun_mk (st := top 66) l__law_heard c__law_heard k__law_heard
  have b__law_heard := F__law_heard.binds (ps := ["links", "relay", "number"]) fun _ _ _ _ _ _ us hl => match us, hl with | [_, _, _], _ => rfl
  have m__law_heard := PySem.W.mg_of X G a__law_heard
  have F__law_ages := fun_mk (st := top 67) l__law_ages c__law_ages k__law_ages
  have b__law_ages := F__law_ages.binds (ps := ["links", "length", "relay"]) fun _ _ _ _ _ _ us hl => match us, hl with | [_, _, _], _ => rfl
  have m__law_ages := PySem.W.mg_of X G a__law_ages
  have F__law_made := fun_mk (st := top 64) l__law_made c__law_made k__law_made
  have b__law_made := F__law_made.binds (ps := ["length", "rides"]) fun _ _ _ _ _ _ us hl => match us, hl with | [_, _], _ => rfl
  have m__law_made := PySem.W.mg_of X G a__law_made
  have F__law_shuffled := fun_mk (st := top 56) l__law_shuffled c__law_shuffled k__law_shuffled
  have b__law_shuffled := F__law_shuffled.binds (ps := ["state", "some"]) fun _ _ _ _ _ _ us hl => match us, hl with | [_, _], _ => rfl
  have m__law_shuffled := PySem.W.mg_of X G a__law_shuffled
  have F__law_rides := fun_mk (st := top 59) l__law_rides c__law_rides k__law_rides
  have b__law_rides := F__law_rides.binds (ps := ["state", "length"]) fun _ _ _ _ _ _ us hl => match us, hl with | [_, _], _ => rfl
  have m__law_rides := PySem.W.mg_of X G a__law_rides
  have F__law_relay := fun_mk (st := top 65) l__law_relay c__law_relay k__law_relay
  have b__law_relay := F__law_relay.binds (ps := ["state", "links", "most"]) fun _ _ _ _ _ _ us hl => match us, hl with | [_, _, _], _ => rfl
  have m__law_relay := PySem.W.mg_of X G a__law_relay
  have F__law_table := fun_mk (st := top 63) l__law_table c__law_table k__law_table
  have b__law_table := F__law_table.binds (ps := ["state", "most", "many"]) fun _ _ _ _ _ _ us hl => match us, hl with | [_, _, _], _ => rfl
  have m__law_table := PySem.W.mg_of X G a__law_table
  have F_CT___getitem__ := fun_mk (st := inClass (top 43) 3) l_CT___getitem__ c_CT___getitem__ k_CT___getitem__
  have b_CT___getitem__ := F_CT___getitem__.binds (ps := ["self", "index"]) fun _ _ _ _ _ _ us hl => match us, hl with | [_, _], _ => rfl
  have F_CD_need_like := fun_mk (st := inClass (top 25) 5) l_CD_need_like c_CD_need_like k_CD_need_like
  have b_CD_need_like := F_CD_need_like.binds (ps := ["self", "other"]) fun _ _ _ _ _ _ us hl => match us, hl with | [_, _], _ => rfl
  have F_CD___le__ := fun_mk (st := inClass (top 25) 11) l_CD___le__ c_CD___le__ k_CD___le__
  have b_CD___le__ := F_CD___le__.binds (ps := ["self", "other"]) fun _ _ _ _ _ _ us hl => match us, hl with | [_, _], _ => rfl
  have F_age_bounds := fun_mk (st := top 50) l_age_bounds c_age_bounds k_age_bounds
  have b_age_bounds := F_age_bounds.binds (ps := ["quick", "slow", "relay"]) fun _ _ _ _ _ _ us hl => match us, hl with | [_, _, _], _ => rfl
  have m_age_bounds := PySem.W.mg_of X G a_age_bounds
  have F__law_caught := fun_mk (st := top 58) l__law_caught c__law_caught k__law_caught
  have b__law_caught := F__law_caught.binds (ps := ["action"]) fun _ _ _ _ _ _ us hl => match us, hl with | [_], _ => rfl
  have m__law_caught := PySem.W.mg_of X G a__law_caught
  have F__law_word := fun_mk (st := top 73) l__law_word c__law_word k__law_word
  have b__law_word := F__law_word.binds (ps := ["action"]) fun _ _ _ _ _ _ us hl => match us, hl with | [_], _ => rfl
  have m__law_word := PySem.W.mg_of X G a__law_word
  have F__law_no_table := fun_mk (st := top 69) l__law_no_table c__law_no_table k__law_no_table
  have b__law_no_table := F__law_no_table.binds (ps := ["state"]) fun _ _ _ _ _ _ us hl => match us, hl with | [_], _ => rfl
  have m__law_no_table := PySem.W.mg_of X G a__law_no_table
  have F__law_no_relay := fun_mk (st := top 68) l__law_no_relay c__law_no_relay k__law_no_relay
  have b__law_no_relay := F__law_no_relay.binds (ps := ["state"]) fun _ _ _ _ _ _ us hl => match us, hl with | [_], _ => rfl
  have m__law_no_relay := PySem.W.mg_of X G a__law_no_relay
  have F__law_daily := fun_mk (st := top 70) l__law_daily c__law_daily k__law_daily
  have b__law_daily := F__law_daily.binds (ps := ["ends"]) fun _ _ _ _ _ _ us hl => match us, hl with | [_], _ => rfl
  have m__law_daily := PySem.W.mg_of X G a__law_daily
  have F__law_slower := fun_mk (st := top 71) l__law_slower c__law_slower k__law_slower
  have b__law_slower := F__law_slower.binds (ps := ["state", "ends"]) fun _ _ _ _ _ _ us hl => match us, hl with | [_, _], _ => rfl
  have m__law_slower := PySem.W.mg_of X G a__law_slower
  have F__law_middle := fun_mk (st := top 72) l__law_middle c__law_middle k__law_middle
  have b__law_middle := F__law_middle.binds (ps := ["state", "ends", "others"]) fun _ _ _ _ _ _ us hl => match us, hl with | [_, _, _], _ => rfl
  have m__law_middle := PySem.W.mg_of X G a__law_middle
  have F_law := funC_mk (st := top 74) l_law c_law
  have m_law := PySem.W.mg_of X G a_law
  refine ⟨PySem.W.fnOf "law" "law" (defArgs (top 74)) (defBody (top 74)) (defScope (top 74)) .none kV_law dc_law pm_law an_law (.ref cc_law) ct_law, fun s v => .of_eq rfl, fun base _ _ TBs => ?_⟩
  have TB := TBs (cc_law, PT) (List.mem_singleton.mpr rfl)
  have E_CR : ErC1 l.prog w K mg base "Crossed" CR ["letter"] := ⟨ox_CR, m_CR, ⟨_, _, a_CR_init, t_CR_init, b_CR_init, fn_err1 (P := l.prog) (w := w) (base := base) F_CR_init S_CR O_OE ox_CR nf_CR⟩⟩
  have E_NL : ErC1 l.prog w K mg base "NoLink" NL ["letter"] := ⟨ox_NL, m_NL, ⟨_, _, a_NL_init, t_NL_init, b_NL_init, fn_err1 (P := l.prog) (w := w) (base := base) F_NL_init S_NL O_OE ox_NL nf_NL⟩⟩
  have D_is_number : DefC l.prog w K mg base "is_number" 1 f_is_number _ ["thing"] cIsNumber := ⟨ok_is_number (P := l.prog) (w := w) (base := base) F_is_number B, m_is_number, k_is_number, b_is_number⟩
  have D_is_ride : DefC l.prog w K mg base "is_ride" 2 f_is_ride _ ["thing"] cIsRide := ⟨ok_is_ride (P := l.prog) (w := w) (base := base) F_is_ride B D_is_number, m_is_ride, k_is_ride, b_is_ride⟩
  have D_is_length : DefC l.prog w K mg base "is_length" 2 f_is_length _ ["thing"] cIsLength := ⟨ok_is_length (P := l.prog) (w := w) (base := base) F_is_length m_MOST_LENGTH D_is_number, m_is_length, k_is_length, b_is_length⟩
  have D_need_length : DefC l.prog w K mg base "need_length" 3 f_need_length _ ["length"] cNeedLength := ⟨ok_need_length (P := l.prog) (w := w) (base := base) F_need_length D_is_length, m_need_length, k_need_length, b_need_length⟩
  have D_need_numbers : DefRC l.prog w K mg base "need_numbers" 2 f_need_numbers cNeedNumbers := ⟨ok_need_numbers (P := l.prog) (w := w) (base := base) F_need_numbers B D_is_number, m_need_numbers, k_need_numbers⟩
  have D_led_on : DefC l.prog w K mg base "led_on" 1 f_led_on _ ["ends", "number"] cLedOn := ⟨ok_led_on (P := l.prog) (w := w) (base := base) F_led_on B, m_led_on, k_led_on, b_led_on⟩
  have D_led_back : DefC l.prog w K mg base "led_back" 1 f_led_back _ ["ends", "number"] cLedBack := ⟨ok_led_back (P := l.prog) (w := w) (base := base) F_led_back B, m_led_back, k_led_back, b_led_back⟩
  have D_ends_of : DefC l.prog w K mg base "ends_of" 1 f_ends_of _ ["length", "rides"] cEndsOf := ⟨ok_ends_of (P := l.prog) (w := w) (base := base) F_ends_of B, m_ends_of, k_ends_of, b_ends_of⟩
  have D_CD___init__ : MkrC l.prog w K mg base "Daily" CD 4 _ ["self", "length", "rides"] φD iDaily := ⟨⟨_, ⟨mk_CD, a_CD___init__, i_CD___init__, kc_CD⟩, ok_daily_init (P := l.prog) (w := w) (base := base) F_CD___init__ B Q m_MOST_RIDES D_need_length D_is_ride D_ends_of⟩, m_CD, b_CD___init__⟩
  have D_CD_length : PrpC l.prog w K mg base CD "length" 1 _ ["self"] (cDLen CD) := ⟨⟨_, _, ⟨a_CD_length, g_CD_length, t_CD_length, ⟨_, e_CD_length⟩⟩, ok_daily_len (P := l.prog) (w := w) (base := base) F_CD_length B Q⟩, b_CD_length⟩
  have D_CT___init__ : MkrC l.prog w K mg base "DailyTable" CT 3 _ ["self", "dailies"] (φT CD) (iTable CD) := ⟨⟨_, ⟨mk_CT, a_CT___init__, i_CT___init__, kc_CT⟩, ok_table_init (P := l.prog) (w := w) (base := base) F_CT___init__ B Q m_LINKS D_CD_length⟩, m_CT, b_CT___init__⟩
  have D_CT_letters : PrpC l.prog w K mg base CT "letters" 1 _ ["self"] (cLetters CD CT) := ⟨⟨_, _, ⟨a_CT_letters, g_CT_letters, t_CT_letters, ⟨_, e_CT_letters⟩⟩, ok_letters (P := l.prog) (w := w) (base := base) F_CT_letters Q⟩, b_CT_letters⟩
  have D_CT_length : PrpC l.prog w K mg base CT "length" 3 _ ["self"] (cTLen CD CT) := ⟨⟨_, _, ⟨a_CT_length, g_CT_length, t_CT_length, ⟨_, e_CT_length⟩⟩, ok_tlen (P := l.prog) (w := w) (base := base) F_CT_length Q D_CT_letters D_CD_length⟩, b_CT_length⟩
  have D_CT_need_links : MthC l.prog w K mg base CT "need_links" 1 _ ["self", "steps"] (cNeedLinks CD CT) := ⟨⟨_, ⟨a_CT_need_links, i_CT_need_links, k_CT_need_links⟩, ok_need_links (P := l.prog) (w := w) (base := base) F_CT_need_links Q⟩, b_CT_need_links⟩
  have D_CT_led : MthC l.prog w K mg base CT "led" 2 _ ["self", "row", "number"] (cLed CD CT) := ⟨⟨_, ⟨a_CT_led, i_CT_led, k_CT_led⟩, ok_led (P := l.prog) (w := w) (base := base) F_CT_led Q m_LINKS D_led_back⟩, b_CT_led⟩
  have D_is_row : DefC l.prog w K mg base "is_row" 1 f_is_row _ ["thing"] cIsRow := ⟨ok_is_row (P := l.prog) (w := w) (base := base) F_is_row B m_MOST_STEPS_rows m_STEPS, m_is_row, k_is_row, b_is_row⟩
  have D_need_daily_table : DefC l.prog w K mg base "need_daily_table" 1 f_need_daily_table _ ["table"] (cNeedTable CD CT) := ⟨ok_need_table (P := l.prog) (w := w) (base := base) F_need_daily_table B Q, m_need_daily_table, k_need_daily_table, b_need_daily_table⟩
  have D_is_relay : DefC l.prog w K mg base "is_relay" 1 f_is_relay _ ["thing"] cIsRow := ⟨ok_is_relay (P := l.prog) (w := w) (base := base) F_is_relay B m_MOST_STEPS_ages22 m_LINKS, m_is_relay, k_is_relay, b_is_relay⟩
  have D_need_relay : DefC l.prog w K mg base "need_relay" 2 f_need_relay _ ["table", "relay"] (cNeedRelay CD CT) := ⟨ok_need_relay (P := l.prog) (w := w) (base := base) F_need_relay Q D_is_relay D_CT_need_links, m_need_relay, k_need_relay, b_need_relay⟩
  have D_ages_by : DefC l.prog w K mg base "ages_by" 5 f_ages_by _ ["table", "relay"] (cAgesBy CD CT) := ⟨ok_ages_by (P := l.prog) (w := w) (base := base) F_ages_by B Q D_CT_length D_CT_led, m_ages_by, k_ages_by, b_ages_by⟩
  have D_ages : DefC l.prog w K mg base "ages" 6 f_ages _ ["table", "relay"] (cAgesBy CD CT) := ⟨ok_ages (P := l.prog) (w := w) (base := base) F_ages D_need_daily_table D_need_relay D_ages_by, m_ages, k_ages, b_ages⟩
  have D__law_begun : DefBC l.prog w K mg base "_law_begun" 1 f__law_begun _ ["script"] := ⟨ok_begun (P := l.prog) (w := w) (base := base) F__law_begun B, m__law_begun, k__law_begun, b__law_begun⟩
  have D__law_mixed : DefSC l.prog w K mg base "_law_mixed" 1 f__law_mixed _ ["state"] cMixed := ⟨ok_mixed (P := l.prog) (w := w) (base := base) F__law_mixed B, m__law_mixed, k__law_mixed, b__law_mixed⟩
  have D__law_draw : DefSC l.prog w K mg base "_law_draw" 2 f__law_draw _ ["state", "room"] cDraw := ⟨ok_draw (P := l.prog) (w := w) (base := base) F__law_draw B D__law_mixed, m__law_draw, k__law_draw, b__law_draw⟩
  have D__law_pick : DefSC l.prog w K mg base "_law_pick" 3 f__law_pick _ ["state", "some"] cPick := ⟨ok_pick (P := l.prog) (w := w) (base := base) F__law_pick B D__law_draw, m__law_pick, k__law_pick, b__law_pick⟩
  have D__law_is : DefGC l.prog w K mg base "_law_is" 1 f__law_is _ ["found", "due"] cIs := ⟨ok_is (P := l.prog) (w := w) (base := base) F__law_is B, (fun _ _ _ ⟨_, _, _, _, _, _, _, _, _, _, h, _⟩ => by rw [h]; rfl), m__law_is, k__law_is, b__law_is⟩
  have D__law_lead : DefC l.prog w K mg base "_law_lead" 1 f__law_lead _ ["ends", "number"] cLead := ⟨ok_lead (P := l.prog) (w := w) (base := base) F__law_lead B, m__law_lead, k__law_lead, b__law_lead⟩
  have D__law_back : DefC l.prog w K mg base "_law_back" 2 f__law_back _ ["ends", "number"] cBack := ⟨ok_back (P := l.prog) (w := w) (base := base) F__law_back B D__law_lead, m__law_back, k__law_back, b__law_back⟩
  have D__law_ends : DefC l.prog w K mg base "_law_ends" 1 f__law_ends _ ["length", "rides"] cLEnds := ⟨ok_lends (P := l.prog) (w := w) (base := base) F__law_ends B, m__law_ends, k__law_ends, b__law_ends⟩
  have D__law_heard : DefC l.prog w K mg base "_law_heard" 3 f__law_heard _ ["links", "relay", "number"] cHeard := ⟨ok_heard (P := l.prog) (w := w) (base := base) F__law_heard D__law_back, m__law_heard, k__law_heard, b__law_heard⟩
  have D__law_ages : DefC l.prog w K mg base "_law_ages" 4 f__law_ages _ ["links", "length", "relay"] cLAges := ⟨ok_lages (P := l.prog) (w := w) (base := base) F__law_ages B D__law_heard, m__law_ages, k__law_ages, b__law_ages⟩
  have D__law_made : DefC l.prog w K mg base "_law_made" 6 f__law_made _ ["length", "rides"] (cMade CD CT) := ⟨ok_made (P := l.prog) (w := w) (base := base) F__law_made B D_CD___init__ D_CT___init__ D__law_ends, m__law_made, k__law_made, b__law_made⟩
  have D__law_shuffled : DefSC l.prog w K mg base "_law_shuffled" 3 f__law_shuffled _ ["state", "some"] cShuf := ⟨ok_shuf (P := l.prog) (w := w) (base := base) F__law_shuffled B D__law_draw, m__law_shuffled, k__law_shuffled, b__law_shuffled⟩
  have D__law_rides : DefSC l.prog w K mg base "_law_rides" 4 f__law_rides _ ["state", "length"] cRides := ⟨ok_rides (P := l.prog) (w := w) (base := base) F__law_rides B D__law_draw D__law_pick, m__law_rides, k__law_rides, b__law_rides⟩
  have D__law_relay : DefSC l.prog w K mg base "_law_relay" 4 f__law_relay _ ["state", "links", "most"] cRelay := ⟨ok_relay (P := l.prog) (w := w) (base := base) F__law_relay B D__law_draw D__law_pick, m__law_relay, k__law_relay, b__law_relay⟩
  have D__law_table : DefSC l.prog w K mg base "_law_table" 5 f__law_table _ ["state", "most", "many"] cTable := ⟨ok_table (P := l.prog) (w := w) (base := base) F__law_table B D__law_draw D__law_pick D__law_shuffled D__law_rides, m__law_table, k__law_table, b__law_table⟩
  have D_is_relay__cIsRelO_K_ : DefC l.prog w K mg base "is_relay" 1 f_is_relay _ ["thing"] (cIsRelO K) := ⟨ok_is_relO (P := l.prog) (w := w) (base := base) F_is_relay B m_MOST_STEPS_ages22 m_LINKS, m_is_relay, k_is_relay, b_is_relay⟩
  have D_need_daily_table__cNeedTableX_K_CT_NT_ : DefXC l.prog w K mg base "need_daily_table" 1 f_need_daily_table _ ["table"] (cNeedTableX K CT NT) := ⟨ok_need_tableX (P := l.prog) (w := w) (base := base) F_need_daily_table B Q E_NT m_NT, m_need_daily_table, k_need_daily_table, b_need_daily_table⟩
  have D_CT_need_links__cNeedLinksX_CD_CT_NL_ : MthXC l.prog w K mg base CT "need_links" 3 _ ["self", "steps"] (cNeedLinksX CD CT NL) := ⟨⟨_, ⟨a_CT_need_links, i_CT_need_links, k_CT_need_links⟩, ok_need_linksX (P := l.prog) (w := w) (base := base) F_CT_need_links Q E_NL⟩, b_CT_need_links⟩
  have D_need_relay__cNeedRelayX_K_CD_CT_NR_NL_ : DefXC l.prog w K mg base "need_relay" 4 f_need_relay _ ["table", "relay"] (cNeedRelayX K CD CT NR NL) := ⟨ok_need_relayX (P := l.prog) (w := w) (base := base) F_need_relay Q D_is_relay__cIsRelO_K_ D_CT_need_links__cNeedLinksX_CD_CT_NL_ E_NR m_NR, m_need_relay, k_need_relay, b_need_relay⟩
  have D_CT___getitem__ : SubC l.prog w K mg base CT 1 _ ["self", "index"] (cGetM CD CT) := ⟨⟨_, ⟨a_CT___getitem__, i_CT___getitem__, k_CT___getitem__⟩, j_CT___getitem__, ok_getM (P := l.prog) (w := w) (base := base) F_CT___getitem__ B Q⟩, b_CT___getitem__⟩
  have D_CD_need_like : MthC l.prog w K mg base CD "need_like" 3 _ ["self", "other"] (cLikeD CD) := ⟨⟨_, ⟨a_CD_need_like, i_CD_need_like, k_CD_need_like⟩, ok_need_like (P := l.prog) (w := w) (base := base) F_CD_need_like Q D_CD_length⟩, b_CD_need_like⟩
  have D_CD___le__ : LeqC l.prog w K mg base CD 4 _ ["self", "other"] (cLeD CD) := ⟨⟨_, ⟨a_CD___le__, i_CD___le__, k_CD___le__⟩, ok_leD (P := l.prog) (w := w) (base := base) F_CD___le__ B Q D_CD_need_like⟩, b_CD___le__⟩
  have D_age_bounds : DefXC l.prog w K mg base "age_bounds" 6 f_age_bounds _ ["quick", "slow", "relay"] (cBoundsX K CD CT NT OL CR NR NL) := ⟨ok_boundsX (P := l.prog) (w := w) (base := base) F_age_bounds B Q E_NT m_NT E_OL m_OL E_CR D_need_daily_table__cNeedTableX_K_CT_NT_ D_CT_letters D_CT_length D_CT___getitem__ D_CD___le__ D_need_relay__cNeedRelayX_K_CD_CT_NR_NL_ D_ages_by, m_age_bounds, k_age_bounds, b_age_bounds⟩
  have D_age_bounds__cBounds_K_CD_CT_ : DefC l.prog w K mg base "age_bounds" 6 f_age_bounds _ ["quick", "slow", "relay"] (cBounds K CD CT) := ⟨ok_bounds (P := l.prog) (w := w) (base := base) F_age_bounds D_age_bounds, m_age_bounds, k_age_bounds, b_age_bounds⟩
  have D__law_caught : DefC l.prog w K mg base "_law_caught" 8 f__law_caught _ ["action"] (cCaught l.prog w K mg base OE) := ⟨ok_caught (P := l.prog) (w := w) (base := base) F__law_caught m_OE, m__law_caught, k__law_caught, b__law_caught⟩
  have D__law_word : DefC l.prog w K mg base "_law_word" 9 f__law_word _ ["action"] (cWord l.prog w K mg base OE NT OL NR) := ⟨ok_word (P := l.prog) (w := w) (base := base) F__law_word B m_NT m_OL m_NR D__law_caught, m__law_word, k__law_word, b__law_word⟩
  have D__law_no_table : DefSC l.prog w K mg base "_law_no_table" 4 f__law_no_table _ ["state"] (cNoTable K) := ⟨ok_no_table (P := l.prog) (w := w) (base := base) F__law_no_table D__law_pick, m__law_no_table, k__law_no_table, b__law_no_table⟩
  have D__law_no_relay : DefSC l.prog w K mg base "_law_no_relay" 4 f__law_no_relay _ ["state"] (cNoRelay K) := ⟨ok_no_relay (P := l.prog) (w := w) (base := base) F__law_no_relay D__law_pick, m__law_no_relay, k__law_no_relay, b__law_no_relay⟩
  have D__law_daily : DefC l.prog w K mg base "_law_daily" 6 f__law_daily _ ["ends"] (cLDaily CD) := ⟨ok_ldaily (P := l.prog) (w := w) (base := base) F__law_daily B D_CD___init__, m__law_daily, k__law_daily, b__law_daily⟩
  have D__law_slower : DefSC l.prog w K mg base "_law_slower" 4 f__law_slower _ ["state", "ends"] cSlower := ⟨ok_slower (P := l.prog) (w := w) (base := base) F__law_slower B D__law_draw D__law_pick, m__law_slower, k__law_slower, b__law_slower⟩
  have D__law_middle : DefSC l.prog w K mg base "_law_middle" 4 f__law_middle _ ["state", "ends", "others"] cMiddle := ⟨ok_middle (P := l.prog) (w := w) (base := base) F__law_middle B D__law_draw, m__law_middle, k__law_middle, b__law_middle⟩
  exact ok_law (P := l.prog) (w := w) (base := base) F_law TB B Q Ef m_CR m_NR m_NL D__law_begun D__law_table D__law_made D__law_relay D__law_pick D__law_ages D__law_is D_ages D__law_slower D__law_middle D__law_daily D__law_no_table D__law_no_relay D__law_caught D__law_word D_age_bounds D_age_bounds__cBounds_K_CD_CT_ (Fun.kbinds (ps := ["quick", "slow", "relay"]) (ks := ["relay", "slow", "quick"]) F_age_bounds (by decide) fun _ _ _ _ _ _ ws hl => match ws, hl with | [_, _, _], _ => rfl) D_CD___init__ D_CT___init__
end My

open PySem PySem.W PyProof.Rows in
set_option maxRecDepth 100000 in
set_option maxHeartbeats 0 in
theorem PySem.Challenge.cw_roundrates_k84_whole_ages_between_holds : PySem.Challenge.rw_roundrates_k84_whole_ages_between.Holds := by
  w_on; o_law; k_head; (case hw => w_witness2)
  k_fill
  refine RT.walk_GT (l := PySem.Challenge.rw_roundrates_k84_whole_ages_between) (n := 63) (k := 10) (x := "script") (sp := fun K => RT.spC (My.cLawT K 654)) [(656, 654)] rfl (by decide) rfl ⟨rfl, by decide, by decide⟩ (fun w h Y => PySem.W.km_in_of Y) (fun w h Y p hp => by rw [List.mem_singleton.mp hp]; exact PySem.W.km_tabs_of Y 654 (by simp)) (fun w p hp => by rw [List.mem_singleton.mp hp]; kernel_rfl) (fun w h X p hp => by rw [List.mem_singleton.mp hp]; exact PySem.W.codeHd_of_K X (by kernel_rfl)) ?F (fun K H a ns hl tab at_ hS hz => My.law_spT hl tab at_ hS hz)
  case F =>
    intro w mg fa h KX G hmg
    refine' My.all_mk (cc_law := 656) (PT := 654) KX G hmg ?o_get ?o_tak ?a_CD ?pg_CD ?hd_CD ?po_CD ?sa_CD ?ha_CD ?hm_CD ?mk_CD ?kc_CD ?n0_CD ?a_CT ?pg_CT ?hd_CT ?po_CT ?sa_CT ?ha_CT ?hm_CT ?mk_CT ?kc_CT ?n0_CT ?z_len ?z_range ?z_min ?z_max ?z_sum ?z_all ?z_any ?z_abs ?z_int ?z_bool ?z_str ?z_list ?z_tuple ?z_dict ?z_sorted ?z_enumerate ?z_zip ?z_repr ?z_isinstance ?a_OE ?e_OE ?i_OE ?t_OE ?r_OE ?g_OE ?v_OE ?a_NT ?e_NT ?i_NT ?t_NT ?o_NT ?k_NT ?ga_NT ?gg_NT ?hd_NT ?ha_NT ?hm_NT ?x0_NT ?a_OL ?e_OL ?i_OL ?t_OL ?o_OL ?k_OL ?ga_OL ?gg_OL ?hd_OL ?ha_OL ?hm_OL ?x0_OL ?a_NR ?e_NR ?i_NR ?t_NR ?o_NR ?k_NR ?ga_NR ?gg_NR ?hd_NR ?ha_NR ?hm_NR ?x0_NR ?a_CR ?e_CR ?i_CR ?t_CR ?o_CR ?k_CR ?ga_CR ?gg_CR ?hd_CR ?ha_CR ?hm_CR ?xl_CR ?sa_CR ?nf_CR ?a_CR_init ?t_CR_init ?l_CR_init ?c_CR_init ?k_CR_init ?a_NL ?e_NL ?i_NL ?t_NL ?o_NL ?k_NL ?ga_NL ?gg_NL ?hd_NL ?ha_NL ?hm_NL ?xl_NL ?sa_NL ?nf_NL ?a_NL_init ?t_NL_init ?l_NL_init ?c_NL_init ?k_NL_init ?u_NT_OL ?u_NT_NR ?u_OL_NT ?u_OL_NR ?u_NR_NT ?u_NR_OL ?i_CT ?t_CT ?y_NoneType ?y_int ?y_dict ?y_str ?y_tuple ?y_bool ?a_is_number ?l_is_number ?c_is_number ?k_is_number ?a_is_ride ?l_is_ride ?c_is_ride ?k_is_ride ?a_is_length ?l_is_length ?c_is_length ?k_is_length ?a_MOST_LENGTH ?a_need_length ?l_need_length ?c_need_length ?k_need_length ?a_need_numbers ?l_need_numbers ?c_need_numbers ?k_need_numbers ?a_led_on ?l_led_on ?c_led_on ?k_led_on ?a_led_back ?l_led_back ?c_led_back ?k_led_back ?a_ends_of ?l_ends_of ?c_ends_of ?k_ends_of ?a_CD___init__ ?i_CD___init__ ?l_CD___init__ ?c_CD___init__ ?k_CD___init__ ?a_MOST_RIDES ?a_CD_length ?g_CD_length ?t_CD_length ?e_CD_length ?l_CD_length ?c_CD_length ?k_CD_length ?a_CT___init__ ?i_CT___init__ ?l_CT___init__ ?c_CT___init__ ?k_CT___init__ ?a_LINKS ?a_CT_letters ?g_CT_letters ?t_CT_letters ?e_CT_letters ?l_CT_letters ?c_CT_letters ?k_CT_letters ?a_CT_length ?g_CT_length ?t_CT_length ?e_CT_length ?l_CT_length ?c_CT_length ?k_CT_length ?a_CT_need_links ?i_CT_need_links ?l_CT_need_links ?c_CT_need_links ?k_CT_need_links ?a_CT_led ?i_CT_led ?l_CT_led ?c_CT_led ?k_CT_led ?a_is_row ?l_is_row ?c_is_row ?k_is_row ?a_MOST_STEPS_rows ?a_STEPS ?a_need_daily_table ?l_need_daily_table ?c_need_daily_table ?k_need_daily_table ?a_is_relay ?l_is_relay ?c_is_relay ?k_is_relay ?a_MOST_STEPS_ages22 ?a_need_relay ?l_need_relay ?c_need_relay ?k_need_relay ?a_ages_by ?l_ages_by ?c_ages_by ?k_ages_by ?a_ages ?l_ages ?c_ages ?k_ages ?a__law_begun ?l__law_begun ?c__law_begun ?k__law_begun ?a__law_mixed ?l__law_mixed ?c__law_mixed ?k__law_mixed ?a__law_draw ?l__law_draw ?c__law_draw ?k__law_draw ?a__law_pick ?l__law_pick ?c__law_pick ?k__law_pick ?a__law_is ?l__law_is ?c__law_is ?k__law_is ?a__law_lead ?l__law_lead ?c__law_lead ?k__law_lead ?a__law_back ?l__law_back ?c__law_back ?k__law_back ?a__law_ends ?l__law_ends ?c__law_ends ?k__law_ends ?a__law_heard ?l__law_heard ?c__law_heard ?k__law_heard ?a__law_ages ?l__law_ages ?c__law_ages ?k__law_ages ?a__law_made ?l__law_made ?c__law_made ?k__law_made ?a__law_shuffled ?l__law_shuffled ?c__law_shuffled ?k__law_shuffled ?a__law_rides ?l__law_rides ?c__law_rides ?k__law_rides ?a__law_relay ?l__law_relay ?c__law_relay ?k__law_relay ?a__law_table ?l__law_table ?c__law_table ?k__law_table ?a_CT___getitem__ ?i_CT___getitem__ ?j_CT___getitem__ ?l_CT___getitem__ ?c_CT___getitem__ ?k_CT___getitem__ ?a_CD_need_like ?i_CD_need_like ?l_CD_need_like ?c_CD_need_like ?k_CD_need_like ?a_CD___le__ ?i_CD___le__ ?l_CD___le__ ?c_CD___le__ ?k_CD___le__ ?a_age_bounds ?l_age_bounds ?c_age_bounds ?k_age_bounds ?a__law_caught ?l__law_caught ?c__law_caught ?k__law_caught ?a__law_word ?l__law_word ?c__law_word ?k__law_word ?a__law_no_table ?l__law_no_table ?c__law_no_table ?k__law_no_table ?a__law_no_relay ?l__law_no_relay ?c__law_no_relay ?k__law_no_relay ?a__law_daily ?l__law_daily ?c__law_daily ?k__law_daily ?a__law_slower ?l__law_slower ?c__law_slower ?k__law_slower ?a__law_middle ?l__law_middle ?c__law_middle ?k__law_middle ?a_law ?l_law ?c_law ?k_law ?d_NT_OL ?d_NT_NR ?d_OL_NT ?d_OL_NR ?d_NR_NT ?d_NR_OL
    (case o_get => k_is)
    (case o_tak => k_is)
    (case a_CD => k_is)
    (case pg_CD => k_is)
    (case hd_CD => k_is)
    (case po_CD => k_is)
    (case sa_CD => k_is)
    (case ha_CD => k_is)
    (case hm_CD => k_is)
    (case mk_CD => k_is)
    (case kc_CD => k_is)
    (case n0_CD => k_is)
    (case a_CT => k_is)
    (case pg_CT => k_is)
    (case hd_CT => k_is)
    (case po_CT => k_is)
    (case sa_CT => k_is)
    (case ha_CT => k_is)
    (case hm_CT => k_is)
    (case mk_CT => k_is)
    (case kc_CT => k_is)
    (case n0_CT => k_is)
    (case z_len => k_is)
    (case z_range => k_is)
    (case z_min => k_is)
    (case z_max => k_is)
    (case z_sum => k_is)
    (case z_all => k_is)
    (case z_any => k_is)
    (case z_abs => k_is)
    (case z_int => k_is)
    (case z_bool => k_is)
    (case z_str => k_is)
    (case z_list => k_is)
    (case z_tuple => k_is)
    (case z_dict => k_is)
    (case z_sorted => k_is)
    (case z_enumerate => k_is)
    (case z_zip => k_is)
    (case z_repr => k_is)
    (case z_isinstance => k_is)
    (case a_OE => k_is)
    (case e_OE => k_is)
    (case i_OE => k_is)
    (case t_OE => k_is)
    (case r_OE => k_is)
    (case g_OE => k_is)
    (case v_OE => k_is)
    (case a_NT => k_is)
    (case e_NT => k_is)
    (case i_NT => k_is)
    (case t_NT => k_is)
    (case o_NT => k_is)
    (case k_NT => k_is)
    (case ga_NT => k_is)
    (case gg_NT => k_is)
    (case hd_NT => k_is)
    (case ha_NT => k_is)
    (case hm_NT => k_is)
    (case x0_NT => k_exc)
    (case a_OL => k_is)
    (case e_OL => k_is)
    (case i_OL => k_is)
    (case t_OL => k_is)
    (case o_OL => k_is)
    (case k_OL => k_is)
    (case ga_OL => k_is)
    (case gg_OL => k_is)
    (case hd_OL => k_is)
    (case ha_OL => k_is)
    (case hm_OL => k_is)
    (case x0_OL => k_exc)
    (case a_NR => k_is)
    (case e_NR => k_is)
    (case i_NR => k_is)
    (case t_NR => k_is)
    (case o_NR => k_is)
    (case k_NR => k_is)
    (case ga_NR => k_is)
    (case gg_NR => k_is)
    (case hd_NR => k_is)
    (case ha_NR => k_is)
    (case hm_NR => k_is)
    (case x0_NR => k_exc)
    (case a_CR => k_is)
    (case e_CR => k_is)
    (case i_CR => k_is)
    (case t_CR => k_is)
    (case o_CR => k_is)
    (case k_CR => k_is)
    (case ga_CR => k_is)
    (case gg_CR => k_is)
    (case hd_CR => k_is)
    (case ha_CR => k_is)
    (case hm_CR => k_is)
    (case xl_CR => k_is)
    (case sa_CR => k_is)
    (case nf_CR => k_is)
    (case a_CR_init => k_is)
    (case t_CR_init => k_is)
    (case l_CR_init => k_is)
    (case c_CR_init => k_is)
    (case k_CR_init => k_is)
    (case a_NL => k_is)
    (case e_NL => k_is)
    (case i_NL => k_is)
    (case t_NL => k_is)
    (case o_NL => k_is)
    (case k_NL => k_is)
    (case ga_NL => k_is)
    (case gg_NL => k_is)
    (case hd_NL => k_is)
    (case ha_NL => k_is)
    (case hm_NL => k_is)
    (case xl_NL => k_is)
    (case sa_NL => k_is)
    (case nf_NL => k_is)
    (case a_NL_init => k_is)
    (case t_NL_init => k_is)
    (case l_NL_init => k_is)
    (case c_NL_init => k_is)
    (case k_NL_init => k_is)
    (case u_NT_OL => k_is)
    (case u_NT_NR => k_is)
    (case u_OL_NT => k_is)
    (case u_OL_NR => k_is)
    (case u_NR_NT => k_is)
    (case u_NR_OL => k_is)
    (case i_CT => k_is)
    (case t_CT => k_is)
    (case y_NoneType => k_is)
    (case y_int => k_is)
    (case y_dict => k_is)
    (case y_str => k_is)
    (case y_tuple => k_is)
    (case y_bool => k_is)
    (case a_is_number => k_is)
    (case l_is_number => k_is)
    (case c_is_number => k_is)
    (case k_is_number => k_is)
    (case a_is_ride => k_is)
    (case l_is_ride => k_is)
    (case c_is_ride => k_is)
    (case k_is_ride => k_is)
    (case a_is_length => k_is)
    (case l_is_length => k_is)
    (case c_is_length => k_is)
    (case k_is_length => k_is)
    (case a_MOST_LENGTH => k_is)
    (case a_need_length => k_is)
    (case l_need_length => k_is)
    (case c_need_length => k_is)
    (case k_need_length => k_is)
    (case a_need_numbers => k_is)
    (case l_need_numbers => k_is)
    (case c_need_numbers => k_is)
    (case k_need_numbers => k_is)
    (case a_led_on => k_is)
    (case l_led_on => k_is)
    (case c_led_on => k_is)
    (case k_led_on => k_is)
    (case a_led_back => k_is)
    (case l_led_back => k_is)
    (case c_led_back => k_is)
    (case k_led_back => k_is)
    (case a_ends_of => k_is)
    (case l_ends_of => k_is)
    (case c_ends_of => k_is)
    (case k_ends_of => k_is)
    (case a_CD___init__ => k_is)
    (case i_CD___init__ => k_is)
    (case l_CD___init__ => k_is)
    (case c_CD___init__ => k_is)
    (case k_CD___init__ => k_is)
    (case a_MOST_RIDES => k_is)
    (case a_CD_length => k_is)
    (case g_CD_length => k_is)
    (case t_CD_length => k_is)
    (case e_CD_length => k_is)
    (case l_CD_length => k_is)
    (case c_CD_length => k_is)
    (case k_CD_length => k_is)
    (case a_CT___init__ => k_is)
    (case i_CT___init__ => k_is)
    (case l_CT___init__ => k_is)
    (case c_CT___init__ => k_is)
    (case k_CT___init__ => k_is)
    (case a_LINKS => k_is)
    (case a_CT_letters => k_is)
    (case g_CT_letters => k_is)
    (case t_CT_letters => k_is)
    (case e_CT_letters => k_is)
    (case l_CT_letters => k_is)
    (case c_CT_letters => k_is)
    (case k_CT_letters => k_is)
    (case a_CT_length => k_is)
    (case g_CT_length => k_is)
    (case t_CT_length => k_is)
    (case e_CT_length => k_is)
    (case l_CT_length => k_is)
    (case c_CT_length => k_is)
    (case k_CT_length => k_is)
    (case a_CT_need_links => k_is)
    (case i_CT_need_links => k_is)
    (case l_CT_need_links => k_is)
    (case c_CT_need_links => k_is)
    (case k_CT_need_links => k_is)
    (case a_CT_led => k_is)
    (case i_CT_led => k_is)
    (case l_CT_led => k_is)
    (case c_CT_led => k_is)
    (case k_CT_led => k_is)
    (case a_is_row => k_is)
    (case l_is_row => k_is)
    (case c_is_row => k_is)
    (case k_is_row => k_is)
    (case a_MOST_STEPS_rows => k_is)
    (case a_STEPS => k_is)
    (case a_need_daily_table => k_is)
    (case l_need_daily_table => k_is)
    (case c_need_daily_table => k_is)
    (case k_need_daily_table => k_is)
    (case a_is_relay => k_is)
    (case l_is_relay => k_is)
    (case c_is_relay => k_is)
    (case k_is_relay => k_is)
    (case a_MOST_STEPS_ages22 => k_is)
    (case a_need_relay => k_is)
    (case l_need_relay => k_is)
    (case c_need_relay => k_is)
    (case k_need_relay => k_is)
    (case a_ages_by => k_is)
    (case l_ages_by => k_is)
    (case c_ages_by => k_is)
    (case k_ages_by => k_is)
    (case a_ages => k_is)
    (case l_ages => k_is)
    (case c_ages => k_is)
    (case k_ages => k_is)
    (case a__law_begun => k_is)
    (case l__law_begun => k_is)
    (case c__law_begun => k_is)
    (case k__law_begun => k_is)
    (case a__law_mixed => k_is)
    (case l__law_mixed => k_is)
    (case c__law_mixed => k_is)
    (case k__law_mixed => k_is)
    (case a__law_draw => k_is)
    (case l__law_draw => k_is)
    (case c__law_draw => k_is)
    (case k__law_draw => k_is)
    (case a__law_pick => k_is)
    (case l__law_pick => k_is)
    (case c__law_pick => k_is)
    (case k__law_pick => k_is)
    (case a__law_is => k_is)
    (case l__law_is => k_is)
    (case c__law_is => k_is)
    (case k__law_is => k_is)
    (case a__law_lead => k_is)
    (case l__law_lead => k_is)
    (case c__law_lead => k_is)
    (case k__law_lead => k_is)
    (case a__law_back => k_is)
    (case l__law_back => k_is)
    (case c__law_back => k_is)
    (case k__law_back => k_is)
    (case a__law_ends => k_is)
    (case l__law_ends => k_is)
    (case c__law_ends => k_is)
    (case k__law_ends => k_is)
    (case a__law_heard => k_is)
    (case l__law_heard => k_is)
    (case c__law_heard => k_is)
    (case k__law_heard => k_is)
    (case a__law_ages => k_is)
    (case l__law_ages => k_is)
    (case c__law_ages => k_is)
    (case k__law_ages => k_is)
    (case a__law_made => k_is)
    (case l__law_made => k_is)
    (case c__law_made => k_is)
    (case k__law_made => k_is)
    (case a__law_shuffled => k_is)
    (case l__law_shuffled => k_is)
    (case c__law_shuffled => k_is)
    (case k__law_shuffled => k_is)
    (case a__law_rides => k_is)
    (case l__law_rides => k_is)
    (case c__law_rides => k_is)
    (case k__law_rides => k_is)
    (case a__law_relay => k_is)
    (case l__law_relay => k_is)
    (case c__law_relay => k_is)
    (case k__law_relay => k_is)
    (case a__law_table => k_is)
    (case l__law_table => k_is)
    (case c__law_table => k_is)
    (case k__law_table => k_is)
    (case a_CT___getitem__ => k_is)
    (case i_CT___getitem__ => k_is)
    (case j_CT___getitem__ => k_is)
    (case l_CT___getitem__ => k_is)
    (case c_CT___getitem__ => k_is)
    (case k_CT___getitem__ => k_is)
    (case a_CD_need_like => k_is)
    (case i_CD_need_like => k_is)
    (case l_CD_need_like => k_is)
    (case c_CD_need_like => k_is)
    (case k_CD_need_like => k_is)
    (case a_CD___le__ => k_is)
    (case i_CD___le__ => k_is)
    (case l_CD___le__ => k_is)
    (case c_CD___le__ => k_is)
    (case k_CD___le__ => k_is)
    (case a_age_bounds => k_is)
    (case l_age_bounds => k_is)
    (case c_age_bounds => k_is)
    (case k_age_bounds => k_is)
    (case a__law_caught => k_is)
    (case l__law_caught => k_is)
    (case c__law_caught => k_is)
    (case k__law_caught => k_is)
    (case a__law_word => k_is)
    (case l__law_word => k_is)
    (case c__law_word => k_is)
    (case k__law_word => k_is)
    (case a__law_no_table => k_is)
    (case l__law_no_table => k_is)
    (case c__law_no_table => k_is)
    (case k__law_no_table => k_is)
    (case a__law_no_relay => k_is)
    (case l__law_no_relay => k_is)
    (case c__law_no_relay => k_is)
    (case k__law_no_relay => k_is)
    (case a__law_daily => k_is)
    (case l__law_daily => k_is)
    (case c__law_daily => k_is)
    (case k__law_daily => k_is)
    (case a__law_slower => k_is)
    (case l__law_slower => k_is)
    (case c__law_slower => k_is)
    (case k__law_slower => k_is)
    (case a__law_middle => k_is)
    (case l__law_middle => k_is)
    (case c__law_middle => k_is)
    (case k__law_middle => k_is)
    (case a_law => k_is)
    (case l_law => k_is)
    (case c_law => k_is)
    (case k_law => k_is)
    (case d_NT_OL => first | rfl | decide)
    (case d_NT_NR => first | rfl | decide)
    (case d_OL_NT => first | rfl | decide)
    (case d_OL_NR => first | rfl | decide)
    (case d_NR_NT => first | rfl | decide)
    (case d_NR_OL => first | rfl | decide)

