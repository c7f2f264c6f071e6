import PyProof.Rows.All
import Wide.All
import OpenK.AllK
import Wide.FinOn
import HandS.ForMost
import HandS.ForExc
import HandS.Deep
import HandS.Flow
import HandS.TryMany
import HandS.IsInst
import HandS.ExcInit
import HandS.ExcField
import HandS.ExcIs
import HandS.DictTup
import HandS.Dict
import HandS.DictComp
import HandS.DictEq
import HandS.Text
import HandS.FStr
import HandS.ReplaceLit
import KE.SortLaws
import HandS.RaiseMore
import HandS.SetKeys
import HandS.TupLe
import HandS.TupAny
import HandS.Conv
import HandS.Rev
import HandS.SortKw
import HandS.Remove
import KE.SortData
import KE.SortKeyHeap
import KE.DataCmp
import HandS.Style
import HandS.Zip
import PySem.Challenge.RW_panelsagree_k77_judge_of_barrings
set_option Elab.async false
set_option linter.all false
set_option autoImplicit false
set_option maxRecDepth 100000
set_option maxHeartbeats 4000000
namespace DL
open PySem PySem.Spec L2
open PyProof.Rows hiding St

/-! ### data -/
inductive D where
  | non | bl (b : Bool) | int (i : Int) | str (x : Str)
  | lst (xs : List D) | tup (xs : List D)
  | dct (t : Bool) (ks vs : List D)
  | ins (c : Nat) (ns : List Str) (vs : List D)
  | scr (ns : List Int)
  deriving Inhabited

structure Ct where
  K : PySem.W.Frag
  ca : Nat → Addr

def keyD : Key → D
  | .inl i => .int i
  | .inr x => .str x
def keyOk : Key → Bool
  | .inl _ => true
  | .inr x => PyData.strOk x

section
variable (T : Ct) (G : Hp)
mutual
/-- the value v stands for the datum, in the still part G of the heap -/
def Rep : D → V → Prop
  | .non, v => v = .non
  | .bl b, v => v = .bl b
  | .int i, v => v = .int i
  | .str x, v => v = .str x ∧ PyData.strOk x = true
  | .lst ds, v => ∃ p vs, v = .ref p ∧ G p = some (.lst vs) ∧ RepL ds vs
  | .tup ds, v => ∃ p vs, v = .ref p ∧ G p = some (.tup vs) ∧ RepL ds vs
  | .dct t ks ds, v => ∃ p, v = .ref p ∧ ((∃ kvs : List (Key × V), G p = some (.dK kvs) ∧ (t = false ∧ ks = kvs.map (fun q => keyD q.1)) ∧ (kvs.all fun q => keyOk q.1) = true ∧ RepL ds (kvs.map (·.2))) ∨
      (∃ kvs : List (List Key × V), G p = some (.dT kvs) ∧ (t = true ∧ ks = kvs.map (fun q => .tup (q.1.map keyD))) ∧ (kvs.all fun q => q.1.all keyOk) = true ∧ RepL ds (kvs.map (·.2))))
  | .ins c ns ds, v => ∃ p dx fs, v = .ref p ∧ G p = some (.ins (T.ca c) dx fs) ∧ G dx = some (.own p) ∧ fs.map (·.1) = ns ∧ RepL ds (fs.map (·.2))
  | .scr ns, v => ∃ p, v = .ref p ∧ SqL T.K G p (ns.map V.int)
def RepL : List D → List V → Prop
  | [], vs => vs = []
  | d :: ds, vs => ∃ v r, vs = v :: r ∧ Rep d v ∧ RepL ds r
end
end

theorem sqT_mono {K : PySem.W.Frag} {G G' : Hp} {a : Addr} {xs : List V} (e : Same G G') (h : SqT K G a xs) : SqT K G' a xs := by
  rcases h with (h | ⟨o, h⟩) | h
  · exact .inl (.inl (e _ _ h))
  · exact .inl (.inr ⟨o, e _ _ h⟩)
  · exact .inr h

section
variable {T : Ct} {G G' : Hp}
mutual
theorem Rep.mono (e : Same G G') : ∀ (d : D) (v : V), Rep T G d v → Rep T G' d v
  | .non, _, h => by simpa only [Rep] using h
  | .bl _, _, h => by simpa only [Rep] using h
  | .int _, _, h => by simpa only [Rep] using h
  | .str _, _, h => by simpa only [Rep] using h
  | .lst ds, _, h => by
    simp only [Rep] at h ⊢
    obtain ⟨p, vs, h1, h2, h3⟩ := h
    exact ⟨p, vs, h1, e _ _ h2, RepL.mono e ds _ h3⟩
  | .tup ds, _, h => by
    simp only [Rep] at h ⊢
    obtain ⟨p, vs, h1, h2, h3⟩ := h
    exact ⟨p, vs, h1, e _ _ h2, RepL.mono e ds _ h3⟩
  | .dct t ks ds, _, h => by
    simp only [Rep] at h ⊢
    obtain ⟨p, h1, h2⟩ := h
    refine ⟨p, h1, ?_⟩
    rcases h2 with ⟨kvs, a, b, c, d⟩ | ⟨kvs, a, b, c, d⟩
    · exact .inl ⟨kvs, e _ _ a, b, c, RepL.mono e ds _ d⟩
    · exact .inr ⟨kvs, e _ _ a, b, c, RepL.mono e ds _ d⟩
  | .ins c ns ds, _, h => by
    simp only [Rep] at h ⊢
    obtain ⟨p, dx, fs, h1, h2, h3, h4, h5⟩ := h
    exact ⟨p, dx, fs, h1, e _ _ h2, e _ _ h3, h4, RepL.mono e ds _ h5⟩
  | .scr ns, _, h => by
    simp only [Rep] at h ⊢
    obtain ⟨p, h1, h2⟩ := h
    exact ⟨p, h1, e.seq h2⟩
theorem RepL.mono (e : Same G G') : ∀ (ds : List D) (vs : List V), RepL T G ds vs → RepL T G' ds vs
  | [], _, h => by simpa only [RepL] using h
  | d :: ds, _, h => by
    simp only [RepL] at h ⊢
    obtain ⟨v, r, h1, h2, h3⟩ := h
    exact ⟨v, r, h1, Rep.mono e d v h2, RepL.mono e ds r h3⟩
end
theorem RepL.nil : RepL T G [] [] := by simp [RepL]
theorem RepL.cons {d : D} {v : V} {ds : List D} {vs : List V} (h : Rep T G d v) (t : RepL T G ds vs) : RepL T G (d :: ds) (v :: vs) := by
  simp only [RepL]; exact ⟨v, vs, rfl, h, t⟩
theorem RepL.length : ∀ {ds : List D} {vs : List V}, RepL T G ds vs → ds.length = vs.length
  | [], _, h => by simp only [RepL] at h; subst h; rfl
  | d :: ds, _, h => by
    simp only [RepL] at h
    obtain ⟨v, r, rfl, _, h3⟩ := h
    simp [RepL.length h3]
theorem RepL.append : ∀ {ds es : List D} {vs us : List V}, RepL T G ds vs → RepL T G es us → RepL T G (ds ++ es) (vs ++ us)
  | [], _, _, _, h, k => by simp only [RepL] at h; subst h; exact k
  | d :: ds, _, _, _, h, k => by
    simp only [RepL] at h
    obtain ⟨v, r, rfl, h2, h3⟩ := h
    exact .cons h2 (h3.append k)
theorem RepL.get : ∀ {ds : List D} {vs : List V} {i : Nat} {d : D}, RepL T G ds vs → ds[i]? = some d → ∃ v, vs[i]? = some v ∧ Rep T G d v
  | [], _, _, _, _, k => by simp at k
  | d :: ds, _, 0, _, h, k => by
    simp only [RepL] at h
    obtain ⟨v, r, rfl, h2, _⟩ := h
    simp at k; subst k
    exact ⟨v, rfl, h2⟩
  | d :: ds, _, i + 1, _, h, k => by
    simp only [RepL] at h
    obtain ⟨v, r, rfl, _, h3⟩ := h
    obtain ⟨u, h4, h5⟩ := RepL.get (i := i) h3 (by simpa using k)
    exact ⟨u, by simpa using h4, h5⟩
theorem RepL.get' {ds : List D} {vs : List V} {i : Nat} {v : V} (h : RepL T G ds vs) (k : vs[i]? = some v) : ∃ d, ds[i]? = some d ∧ Rep T G d v := by
  have hl : i < ds.length := by rw [h.length]; exact (List.getElem?_eq_some_iff.mp k).1
  obtain ⟨u, h1, h2⟩ := h.get (List.getElem?_eq_getElem hl)
  rw [k] at h1; cases h1
  exact ⟨_, List.getElem?_eq_getElem hl, h2⟩
theorem RepL.take : ∀ {ds : List D} {vs : List V} (n : Nat), RepL T G ds vs → RepL T G (ds.take n) (vs.take n)
  | _, _, 0, _ => RepL.nil
  | [], _, n + 1, h => by simp only [RepL] at h; subst h; exact RepL.nil
  | d :: ds, _, n + 1, h => by
    simp only [RepL] at h
    obtain ⟨v, r, rfl, h2, h3⟩ := h
    exact .cons h2 (h3.take n)
theorem RepL.drop : ∀ {ds : List D} {vs : List V} (n : Nat), RepL T G ds vs → RepL T G (ds.drop n) (vs.drop n)
  | _, _, 0, h => h
  | [], _, n + 1, h => by simp only [RepL] at h; subst h; exact RepL.nil
  | d :: ds, _, n + 1, h => by
    simp only [RepL] at h
    obtain ⟨v, r, rfl, h2, h3⟩ := h
    exact h3.drop n
theorem RepL.set : ∀ {ds : List D} {vs : List V} (n : Nat) {d : D} {v : V}, RepL T G ds vs → Rep T G d v → RepL T G (ds.set n d) (vs.set n v)
  | [], _, _, _, _, h, _ => by simp only [RepL] at h; subst h; exact RepL.nil
  | e :: ds, _, 0, d, v, h, k => by
    simp only [RepL] at h
    obtain ⟨u, r, rfl, h2, h3⟩ := h
    exact .cons k h3
  | e :: ds, _, n + 1, d, v, h, k => by
    simp only [RepL] at h
    obtain ⟨u, r, rfl, h2, h3⟩ := h
    exact .cons h2 (h3.set n k)
theorem RepL.reverse {ds : List D} {vs : List V} (h : RepL T G ds vs) : RepL T G ds.reverse vs.reverse := by
  induction ds generalizing vs with
  | nil => simp only [RepL] at h; subst h; exact RepL.nil
  | cons d ds ih =>
    simp only [RepL] at h
    obtain ⟨v, r, rfl, h2, h3⟩ := h
    rw [List.reverse_cons, List.reverse_cons]
    exact (ih h3).append (.cons h2 .nil)
end

/-! ### heaps that grow -/
structure Good (G H G' H' : Hp) : Prop where
  sub : Same G' H'
  gg : Same G G'
  hh : Same H H'
  nw : ∀ a, H a ≠ none → G a = none → G' a = none
theorem Good.refl {G H : Hp} (s : Same G H) : Good G H G H := ⟨s, Same.refl G, Same.refl H, fun _ _ h => h⟩
theorem Good.trans {G H G1 H1 G2 H2 : Hp} (a : Good G H G1 H1) (b : Good G1 H1 G2 H2) : Good G H G2 H2 :=
  ⟨b.sub, a.gg.trans b.gg, a.hh.trans b.hh, fun x h1 h2 => b.nw x (by
    intro z
    cases q : H x with
    | none => exact h1 q
    | some o => rw [a.hh x o q] at z; cases z) (a.nw x h1 h2)⟩
/-- a new cell that joins the still part -/
theorem Good.new {G H : Hp} {p : Addr} {o : HO} (s : Same G H) (hp : H p = none) : Good G H (upd G p o) (upd H p o) := by
  have hg : G p = none := s.free hp
  refine ⟨fun a u h => ?_, fun a u h => ?_, fun a u h => ?_, fun a h1 h2 => ?_⟩
  · by_cases e : a = p
    · subst e; rw [upd_same] at h ⊢; exact h
    · rw [upd_ne e] at h ⊢; exact s a u h
  · rw [upd_ne (ne_of_none h hg)]; exact h
  · rw [upd_ne (ne_of_none h hp)]; exact h
  · have e : a ≠ p := fun z => h1 (by rw [z]; exact hp)
    rw [upd_ne e]; exact h2
/-- a new cell that does not -/
theorem Good.newO {G H : Hp} {p : Addr} {o : HO} (s : Same G H) (hp : H p = none) : Good G H G (upd H p o) :=
  ⟨fun a u h => by rw [upd_ne (ne_of_none (s a u h) hp)]; exact s a u h, Same.refl G, fun a u h => by rw [upd_ne (ne_of_none h hp)]; exact h, fun _ _ h => h⟩
/-- a cell that is not of the still part joins it -/
theorem Good.join {G H G' H' : Hp} {p : Addr} {o : HO} (g : Good G H G' H') (h0 : H p = none) (hg : G' p = none) (hp : H' p = some o) : Good G H (upd G' p o) H' := by
  refine ⟨fun a u h => ?_, fun a u h => ?_, g.hh, fun a h1 h2 => ?_⟩
  · by_cases e : a = p
    · subst e; rw [upd_same] at h; cases h; exact hp
    · rw [upd_ne e] at h; exact g.sub a u h
  · have := g.gg a u h
    rw [upd_ne (ne_of_none this hg)]; exact this
  · have e : a ≠ p := fun z => h1 (by rw [z]; exact h0)
    rw [upd_ne e]; exact g.nw a h1 h2
theorem same_join {G : Hp} {p : Addr} {o : HO} (hg : G p = none) : Same G (upd G p o) := fun a u h => by rw [upd_ne (ne_of_none h hg)]; exact h

/-! ### slots -/
inductive Sl where
  | un
  | fz (d : D)
  | ow (d : D)
  | xc (c : Nat) (ns : List Str) (ds : List D)
  deriving Inhabited
abbrev En := List Sl

/-- an own cell at p: its top is not in the still part, its items are -/
def Own (T : Ct) (G H : Hp) (p : Addr) : D → Prop
  | .lst ds => ∃ vs, H p = some (.lst vs) ∧ RepL T G ds vs
  | .dct t ks ds => (∃ kvs : List (Key × V), H p = some (.dK kvs) ∧ (t = false ∧ ks = kvs.map (fun q => keyD q.1)) ∧ (kvs.all fun q => keyOk q.1) = true ∧ RepL T G ds (kvs.map (·.2))) ∨
      (∃ kvs : List (List Key × V), H p = some (.dT kvs) ∧ (t = true ∧ ks = kvs.map (fun q => .tup (q.1.map keyD))) ∧ (kvs.all fun q => q.1.all keyOk) = true ∧ RepL T G ds (kvs.map (·.2)))
  | .ins c ns ds => ∃ dx fs, H p = some (.ins (T.ca c) dx fs) ∧ H dx = some (.own p) ∧ G dx = none ∧ fs.map (·.1) = ns ∧ RepL T G ds (fs.map (·.2))
  | _ => False
theorem Own.some {T : Ct} {G H : Hp} {p : Addr} : ∀ {d : D}, Own T G H p d → ∃ o, H p = some o
  | .lst _, ⟨_, h, _⟩ => ⟨_, h⟩
  | .dct _ _ _, .inl ⟨_, h, _⟩ => ⟨_, h⟩
  | .dct _ _ _, .inr ⟨_, h, _⟩ => ⟨_, h⟩
  | .ins _ _ _, ⟨_, _, h, _⟩ => ⟨_, h⟩
theorem Own.good {T : Ct} {G H G' H' : Hp} {p : Addr} (g : Good G H G' H') : ∀ {d : D}, Own T G H p d → Own T G' H' p d
  | .lst _, ⟨vs, h, r⟩ => ⟨vs, g.hh _ _ h, r.mono g.gg⟩
  | .dct _ _ _, .inl ⟨k, h, a, b, r⟩ => .inl ⟨k, g.hh _ _ h, a, b, r.mono g.gg⟩
  | .dct _ _ _, .inr ⟨k, h, a, b, r⟩ => .inr ⟨k, g.hh _ _ h, a, b, r.mono g.gg⟩
  | .ins _ _ _, ⟨dx, fs, h, h2, h3, a, r⟩ => ⟨dx, fs, g.hh _ _ h, g.hh _ _ h2, g.nw _ (by rw [h2]; simp) h3, a, r.mono g.gg⟩

def SlOk (T : Ct) (G H0 H : Hp) (v : Option (Option V)) : Sl → Prop
  | .un => True
  | .fz d => ∃ u, v = some (some u) ∧ Rep T G d u
  | .ow d => ∃ p, v = some (some (.ref p)) ∧ G p = none ∧ H0 p = none ∧ Own T G H p d ∧ (∀ dx fs C, H p = some (.ins C dx fs) → H0 dx = none)
  | .xc _ _ _ => True

structure StOk (T : Ct) (G0 H0 G H : Hp) (σ : St) (e : En) : Prop where
  gd : Good G0 H0 G H
  len : σ.length = e.length
  sl : ∀ (i : Nat) (s : Sl), e[i]? = some s → SlOk T G H0 H σ[i]? s
  ds : ∀ (i j : Nat) (a b : D) (p : Addr), e[i]? = some (.ow a) → e[j]? = some (.ow b) → σ[i]? = some (some (.ref p)) → σ[j]? = some (some (.ref p)) → i = j

theorem StOk.ext {T : Ct} {G0 H0 G H G' H' : Hp} {σ : St} {e : En} (h : StOk T G0 H0 G H σ e) (g : Good G H G' H') : StOk T G0 H0 G' H' σ e := by
  refine ⟨h.gd.trans g, h.len, fun i s q => ?_, h.ds⟩
  have k := h.sl i s q
  cases s with
  | un => trivial
  | xc _ _ _ => trivial
  | fz d =>
    obtain ⟨u, a, b⟩ := k
    exact ⟨u, a, b.mono g.gg⟩
  | ow d =>
    obtain ⟨p, a, b, c, o, dd⟩ := k
    obtain ⟨ob, ho⟩ := o.some
    refine ⟨p, a, g.nw p (by rw [ho]; simp) b, c, o.good g, fun dx fs C hp => dd dx fs C ?_⟩
    have := g.hh _ _ ho
    rw [hp] at this; cases this
    exact ho
theorem StOk.same {T : Ct} {G0 H0 G H : Hp} {σ : St} {e : En} (h : StOk T G0 H0 G H σ e) : Same G H := h.gd.sub
/-! ### results -/
structure Ex where
  c : Nat
  ns : List Str
  ds : List D
inductive Rs (α : Type) where
  | ok (a : α)
  | err (x : Ex)
abbrev R (α : Type) := Option (Rs α)
def bR {α β : Type} (m : R α) (k : α → R β) : R β := match m with
  | some (.ok a) => k a
  | some (.err x) => some (.err x)
  | none => none
abbrev ok {α : Type} (a : α) : R α := some (.ok a)
@[simp] theorem bR_ok {α β : Type} (a : α) (k : α → R β) : bR (some (.ok a)) k = k a := rfl
@[simp] theorem bR_err {α β : Type} (x : Ex) (k : α → R β) : bR (some (.err x)) k = some (.err x) := rfl
@[simp] theorem bR_none {α β : Type} (k : α → R β) : bR (none : R α) k = none := rfl

/-- the exception's own dict -/
def ExOk (T : Ct) (G H : Hp) (x : Ex) (d : Option Addr) : Prop := match d with
  | none => x.ns = [] ∧ x.ds = []
  | some dx => ∃ fs : List (Str × V), H dx = some (.xd fs) ∧ fs.map (·.1) = x.ns ∧ RepL T G x.ds (fs.map (·.2))

/-! ### the lengths of what is tracked -/
def olen : HO → Nat
  | .lst xs => xs.length
  | .tup xs => xs.length
  | .dK kvs => kvs.length
  | .dT kvs => kvs.length
  | .frz _ u => olen u
  | _ => 0
def HLen (H : Hp) : Prop := ∀ p o, H p = some o → olen o ≤ sizeLine
theorem olen_ok {P : Program} {w : World} {H : Hp} {h : Heap} {p : Addr} : ∀ {o : HO}, ObjOk P w H h p o → olen o ≤ sizeLine
  | .lst xs, x => x.1
  | .tup xs, x => x.1
  | .dK kvs, x => x.1
  | .dT kvs, x => x.1
  | .frz _ u, x => olen_ok (o := u) x.2
  | .set _ _, _ => Nat.zero_le _
  | .ins _ _ _, _ => Nat.zero_le _
  | .own _, _ => Nat.zero_le _
  | .xd _, _ => Nat.zero_le _
  | .met _ _, _ => Nat.zero_le _
  | .rng _ _, _ => Nat.zero_le _
  | .tbl _, _ => Nat.zero_le _
  | .ext _, _ => Nat.zero_le _
theorem HLen.of {P : Program} {w : World} {H : Hp} {h : Heap} (k : HOk P w H h) : HLen H := fun p o e => olen_ok (k p o e)
theorem sqL_len {K : PySem.W.Frag} {H : Hp} {p : Addr} {vs : List V} (l : HLen H) (h : SqL K H p vs) : vs.length ≤ sizeLine := by
  rcases h with (h | ⟨o, h⟩) | ⟨o, its, n, _, _, _, _, hz, r⟩
  · exact l p _ h
  · exact l p _ h
  · have := r.length
    simp only [Array.length_toList] at this
    omega
theorem sqT_len {K : PySem.W.Frag} {H : Hp} {p : Addr} {vs : List V} (l : HLen H) (h : SqT K H p vs) : vs.length ≤ sizeLine := by
  rcases h with (h | ⟨o, h⟩) | ⟨o, its, n, _, _, _, hz, r⟩
  · exact l p _ h
  · exact l p _ h
  · have := r.length
    simp only [Array.length_toList] at this
    omega
theorem hlen_upd {H : Hp} {p : Addr} {o : HO} (l : HLen H) (h : olen o ≤ sizeLine) : HLen (upd H p o) := fun q u e => by
  by_cases z : q = p
  · subst z; rw [upd_same] at e; cases e; exact h
  · rw [upd_ne z] at e; exact l q u e

section
variable {X : Cx}
theorem PE.imp {e : Expr} {t t' : TE} (h : PE X e t) (k : ∀ σ H Q, HLen H → t' σ H Q → t σ H (fun v H' => HLen H' → Q v H')) : PE X e t' := by
  refine ⟨fun pins s σ H Q I q => ?_⟩
  refine thn (h.run pins s σ H _ I (k σ H Q (HLen.of I.hok) q)) fun u s' ⟨v, H', I', r, z⟩ => ⟨v, H', I', r, z (HLen.of I'.hok)⟩
theorem PT.imp {e : Expr} {t t' : TT} (h : PT X e t) (k : ∀ σ H Q, HLen H → t' σ H Q → t σ H (fun v H' => HLen H' → Q v H')) : PT X e t' := by
  refine ⟨fun pins s σ H Q I q => ?_⟩
  refine thn (h.run pins s σ H _ I (k σ H Q (HLen.of I.hok) q)) fun u s' ⟨H', I', z⟩ => ⟨H', I', z (HLen.of I'.hok)⟩
theorem PA.imp {es : List Expr} {t t' : TA} (h : PA X es t) (k : ∀ σ H Q, HLen H → t' σ H Q → t σ H (fun v H' => HLen H' → Q v H')) : PA X es t' := by
  refine ⟨fun pos pins s σ H Q I q => ?_⟩
  refine thn (h.run pos pins s σ H _ I (k σ H Q (HLen.of I.hok) q)) fun u s' ⟨v, H', I', r, z⟩ => ⟨v, H', I', r, z (HLen.of I'.hok)⟩
theorem PS.imp {st : Stmt} {t t' : TS} (h : PS X st t) (k : ∀ D σ H, HLen H → t' D σ H → t D σ H) : PS X st t' :=
  ⟨fun pins s σ H D I q => h.run pins s σ H D I (k D σ H (HLen.of I.hok) q)⟩
theorem PSs.imp {st : List Stmt} {t t' : TS} (h : PSs X st t) (k : ∀ D σ H, HLen H → t' D σ H → t D σ H) : PSs X st t' :=
  ⟨fun pins s σ H D I q => h.run pins s σ H D I (k D σ H (HLen.of I.hok) q)⟩
end

/-! ### readings by data -/
section
variable (T : Ct) (W : WX)
/-- the way out of an exception -/
def EOut (G H : Hp) (σ : St) (x : Ex) : Prop := ∀ d G' H', Good G H G' H' → ExOk T G' H' x d → W (.ref (T.ca x.c)) d σ H'
def PV {α : Type} (G H : Hp) (σ : St) (k : α → Prop) : Rs α → Prop
  | .ok a => k a
  | .err x => EOut T W G H σ x
/-- a value -/
def tE (f : En → R D) : TE := fun σ H Q => ∃ G0 H0 G e r, StOk T G0 H0 G H σ e ∧ f e = some r ∧
  PV T W G H σ (fun d => ∀ v G' H', Good G H G' H' → HLen H' → Rep T G' d v → Q v H') r
/-- a value that may be an own cell of a slot -/
def RepB (G H : Hp) (d : D) (v : V) : Prop := Rep T G d v ∨ ∃ p, v = .ref p ∧ G p = none ∧ Own T G H p d
def tB (f : En → R D) : TE := fun σ H Q => ∃ G0 H0 G e r, StOk T G0 H0 G H σ e ∧ f e = some r ∧
  PV T W G H σ (fun d => ∀ v G' H', Good G H G' H' → HLen H' → RepB T G' H' d v → Q v H') r
/-- a new cell -/
def tF (f : En → R D) : TE := fun σ H Q => ∃ G0 H0 G e r, StOk T G0 H0 G H σ e ∧ f e = some r ∧
  PV T W G H σ (fun d => ∀ p G' H', Good G H G' H' → HLen H' → H p = none → G' p = none → Own T G' H' p d → (∀ dx fs C, H' p = some (.ins C dx fs) → H dx = none) → Q (.ref p) H') r
/-- a test -/
def tT (f : En → R Bool) : TT := fun σ H Q => ∃ G0 H0 G e r, StOk T G0 H0 G H σ e ∧ f e = some r ∧
  PV T W G H σ (fun b => ∀ G' H', Good G H G' H' → HLen H' → Q b H') r
/-- arguments -/
def tAs (f : En → R (List D)) : TA := fun σ H Q => ∃ G0 H0 G e r, StOk T G0 H0 G H σ e ∧ f e = some r ∧
  PV T W G H σ (fun ds => ∀ vs G' H', Good G H G' H' → HLen H' → RepL T G' ds vs → Q vs H') r
/-- the end of a statement -/
inductive Fl where
  | nx (e : En)
  | bk (e : En)
  | ct (e : En)
  | rt (d : D)
  | rf (d : D)
  | er (x : Ex) (e : En)
def FPost (G0 H0 Gc : Hp) (D : Ends) : Fl → Prop
  | .nx e => ∀ σ G H, Same Gc G → StOk T G0 H0 G H σ e → HLen H → D.nx σ H
  | .bk e => ∀ σ G H, Same Gc G → StOk T G0 H0 G H σ e → HLen H → D.bk σ H
  | .ct e => ∀ σ G H, Same Gc G → StOk T G0 H0 G H σ e → HLen H → D.ct σ H
  | .rt d => ∀ v G H, Good G0 H0 G H → HLen H → Rep T G d v → D.rt v H
  | .rf d => ∀ p G H, Good G0 H0 G H → HLen H → H0 p = none → G p = none → Own T G H p d → (∀ dx fs C, H p = some (.ins C dx fs) → H0 dx = none) → D.rt (.ref p) H
  | .er x e => ∀ σ d G H, Same Gc G → StOk T G0 H0 G H σ e → ExOk T G H x d → W (.ref (T.ca x.c)) d σ H
def tS (f : En → Option Fl) : TS := fun D σ H => ∃ G0 H0 G e r, StOk T G0 H0 G H σ e ∧ f e = some r ∧ FPost T W G0 H0 G D r
end

section
variable {T : Ct} {W : WX} {X : Cx} {G H G' H' G1 H1 : Hp} {σ : St} {x : Ex} {d : D} {v : V}
theorem EOut.ext (h : EOut T W G H σ x) (g : Good G H G1 H1) : EOut T W G1 H1 σ x := fun d G' H' g' e => h d G' H' (g.trans g') e
theorem RepB.good (h : RepB T G H d v) (g : Good G H G' H') : RepB T G' H' d v := by
  rcases h with h | ⟨p, h1, h2, h3⟩
  · exact .inl (h.mono g.gg)
  · obtain ⟨o, ho⟩ := h3.some
    exact .inr ⟨p, h1, g.nw p (by rw [ho]; simp) h2, h3.good g⟩
theorem tE_of_tB {f : En → R D} {Q : VK} (h : tB T W f σ H Q) : tE T W f σ H Q := by
  obtain ⟨G0, H0, G, e, r, a, b, c⟩ := h
  refine ⟨G0, H0, G, e, r, a, b, ?_⟩
  cases r with
  | ok d => exact fun v G' H' g l k => c v G' H' g l (.inl k)
  | err x => exact c
/-- an own new cell joins the still part -/
theorem rep_join {p : Addr} (g : Good G H G' H') (h0 : H p = none) (hg : G' p = none) (o : Own T G' H' p d) (hd : ∀ dx fs C, H' p = some (.ins C dx fs) → H dx = none) : ∃ G2, Good G H G2 H' ∧ Rep T G2 d (.ref p) := by
  cases d with
  | lst ds =>
    obtain ⟨vs, h1, h2⟩ := o
    refine ⟨upd G' p (.lst vs), g.join h0 hg h1, ?_⟩
    simp only [Rep]
    exact ⟨p, vs, rfl, upd_same, h2.mono (same_join hg)⟩
  | dct t ks ds =>
    rcases o with ⟨k, h1, a, b, h2⟩ | ⟨k, h1, a, b, h2⟩
    · refine ⟨upd G' p (.dK k), g.join h0 hg h1, ?_⟩
      simp only [Rep]
      exact ⟨p, rfl, .inl ⟨k, upd_same, a, b, h2.mono (same_join hg)⟩⟩
    · refine ⟨upd G' p (.dT k), g.join h0 hg h1, ?_⟩
      simp only [Rep]
      exact ⟨p, rfl, .inr ⟨k, upd_same, a, b, h2.mono (same_join hg)⟩⟩
  | ins c ns ds =>
    obtain ⟨dx, fs, h1, h2, h3, a, h4⟩ := o
    have hdx := hd _ _ _ h1
    have ne : dx ≠ p := fun z => by rw [z, h1] at h2; cases h2
    have g2 := g.join h0 hg h1
    refine ⟨upd (upd G' p (.ins (T.ca c) dx fs)) dx (.own p), g2.join hdx (by rw [upd_ne ne]; exact h3) h2, ?_⟩
    simp only [Rep]
    refine ⟨p, dx, fs, rfl, ?_, upd_same, a, ?_⟩
    · rw [upd_ne (Ne.symm ne), upd_same]
    · exact (h4.mono (same_join hg)).mono (same_join (by rw [upd_ne ne]; exact h3))
  | _ => exact o.elim
theorem tE_to_tF {f : En → R D} {Q : VK} (h : tE T W f σ H Q) : tF T W f σ H Q := by
  obtain ⟨G0, H0, G, e, r, a, b, c⟩ := h
  refine ⟨G0, H0, G, e, r, a, b, ?_⟩
  cases r with
  | err x => exact c
  | ok d =>
    intro p G' H' g l h0 hg o hd
    obtain ⟨G2, g2, r2⟩ := rep_join g h0 hg o hd
    exact c _ G2 H' g2 l r2
theorem hq {Q : VK} {v : V} {H : Hp} (h : Q v H) : HLen H → Q v H := fun _ => h
/-- a value where one may be an own cell -/
theorem be {e : Expr} {f : En → R D} (h : PE X e (tE T W f)) : PE X e (tB T W f) := by
  refine PE.imp h fun σ H Q _ q => ?_
  have := tE_of_tB q
  obtain ⟨G0, H0, G, e, r, a, b, c⟩ := this
  refine ⟨G0, H0, G, e, r, a, b, ?_⟩
  cases r with
  | err x => exact c
  | ok d => exact fun v G' H' g l k _ => c v G' H' g l k
/-- a new cell as a value -/
theorem ef {e : Expr} {f : En → R D} (h : PE X e (tF T W f)) : PE X e (tE T W f) := by
  refine PE.imp h fun σ H Q _ q => ?_
  have := tE_to_tF q
  obtain ⟨G0, H0, G, e, r, a, b, c⟩ := this
  refine ⟨G0, H0, G, e, r, a, b, ?_⟩
  cases r with
  | err x => exact c
  | ok d => exact fun p G' H' g l h1 h2 o z _ => c p G' H' g l h1 h2 o z
theorem bf {e : Expr} {f : En → R D} (h : PE X e (tF T W f)) : PE X e (tB T W f) := be (ef h)

/-- one after another -/
theorem seqE {β : Type} {fa : En → R D} {k : D → R β} {r : Rs β} {G0 H0 : Hp} {e : En} {kk : β → Prop} {NX : VK} (s : StOk T G0 H0 G H σ e) (h : bR (fa e) k = some r) (hp : PV T W G H σ kk r)
    (next : ∀ x v G1 H1, Good G H G1 H1 → HLen H1 → StOk T G0 H0 G1 H1 σ e → Rep T G1 x v → k x = some r → NX v H1) : tE T W fa σ H NX := by
  cases q : fa e with
  | none => rw [q] at h; cases h
  | some m =>
    rw [q] at h
    cases m with
    | ok a => exact ⟨G0, H0, G, e, _, s, q, fun v G' H' g l rp => next a v G' H' g l (s.ext g) rp h⟩
    | err x =>
      cases h
      exact ⟨G0, H0, G, e, _, s, q, hp⟩
theorem seqB {β : Type} {fa : En → R D} {k : D → R β} {r : Rs β} {G0 H0 : Hp} {e : En} {kk : β → Prop} {NX : VK} (s : StOk T G0 H0 G H σ e) (h : bR (fa e) k = some r) (hp : PV T W G H σ kk r)
    (next : ∀ x v G1 H1, Good G H G1 H1 → HLen H1 → StOk T G0 H0 G1 H1 σ e → RepB T G1 H1 x v → k x = some r → NX v H1) : tB T W fa σ H NX := by
  cases q : fa e with
  | none => rw [q] at h; cases h
  | some m =>
    rw [q] at h
    cases m with
    | ok a => exact ⟨G0, H0, G, e, _, s, q, fun v G' H' g l rp => next a v G' H' g l (s.ext g) rp h⟩
    | err x =>
      cases h
      exact ⟨G0, H0, G, e, _, s, q, hp⟩
theorem seqT {β : Type} {fa : En → R Bool} {k : Bool → R β} {r : Rs β} {G0 H0 : Hp} {e : En} {kk : β → Prop} {NX : Bool → Hp → Prop} (s : StOk T G0 H0 G H σ e) (h : bR (fa e) k = some r) (hp : PV T W G H σ kk r)
    (next : ∀ x G1 H1, Good G H G1 H1 → HLen H1 → StOk T G0 H0 G1 H1 σ e → k x = some r → NX x H1) : tT T W fa σ H NX := by
  cases q : fa e with
  | none => rw [q] at h; cases h
  | some m =>
    rw [q] at h
    cases m with
    | ok a => exact ⟨G0, H0, G, e, _, s, q, fun G' H' g l => next a G' H' g l (s.ext g) h⟩
    | err x =>
      cases h
      exact ⟨G0, H0, G, e, _, s, q, hp⟩
theorem seqA {β : Type} {fa : En → R (List D)} {k : List D → R β} {r : Rs β} {G0 H0 : Hp} {e : En} {kk : β → Prop} {NX : List V → Hp → Prop} (s : StOk T G0 H0 G H σ e) (h : bR (fa e) k = some r) (hp : PV T W G H σ kk r)
    (next : ∀ x v G1 H1, Good G H G1 H1 → HLen H1 → StOk T G0 H0 G1 H1 σ e → RepL T G1 x v → k x = some r → NX v H1) : tAs T W fa σ H NX := by
  cases q : fa e with
  | none => rw [q] at h; cases h
  | some m =>
    rw [q] at h
    cases m with
    | ok a => exact ⟨G0, H0, G, e, _, s, q, fun v G' H' g l rp => next a v G' H' g l (s.ext g) rp h⟩
    | err x =>
      cases h
      exact ⟨G0, H0, G, e, _, s, q, hp⟩
theorem PV.ext {β : Type} {r : Rs β} {kk kk' : β → Prop} (hp : PV T W G H σ kk r) (g : Good G H G1 H1) (hk : ∀ b, kk b → kk' b) : PV T W G1 H1 σ kk' r := by
  cases r with
  | ok a => exact hk a hp
  | err x => exact EOut.ext hp g
end
end DL

namespace DL
open PySem PySem.Spec L2
open PyProof.Rows hiding St
open PySem.W (alike alikeAll dataLt)

/-! ### data as the library's data -/
mutual
def P : D → PyData
  | .non => .none
  | .bl b => .bool b
  | .int i => .int i
  | .str x => .str x
  | .lst xs => .list (PL xs)
  | .tup xs => .tuple (PL xs)
  | _ => .dict []
def PL : List D → List PyData
  | [] => []
  | x :: xs => P x :: PL xs
end
theorem PL_map : ∀ xs : List D, PL xs = xs.map P
  | [] => rfl
  | x :: xs => by rw [PL, PL_map xs]; rfl
/-- plain, of at most that depth -/
def pl : Nat → D → Bool
  | 0, .lst xs => xs.isEmpty
  | 0, .tup xs => xs.isEmpty
  | n + 1, .lst xs => xs.all (pl n)
  | n + 1, .tup xs => xs.all (pl n)
  | _, .dct _ _ _ => false
  | _, .ins _ _ _ => false
  | _, .scr _ => false
  | _, _ => true
def deq (x y : D) : Bool := PyData.eqv (P x) (P y)
def dlt (x y : D) : Bool := dataLt (P x) (P y)
def dal (x y : D) : Bool := alike (P x) (P y)

theorem depthAll_le : ∀ (xs : List PyData) (n : Nat), (∀ x ∈ xs, x.depth ≤ n) → PyData.depthAll xs ≤ n
  | [], _, _ => by simp [PyData.depthAll]
  | x :: xs, n, h => by
    have h1 := h x (by simp)
    have h2 := depthAll_le xs n fun y hy => h y (by simp [hy])
    simp only [PyData.depthAll]; omega
theorem depth_pl : ∀ (n : Nat) (x : D), pl n x = true → (P x).depth ≤ n + 1
  | 0, x, h => by
    cases x <;> simp_all [pl, P, PyData.depth, PL, PyData.depthAll]
  | n + 1, x, h => by
    cases x with
    | lst xs =>
      simp only [pl, List.all_eq_true] at h
      simp only [P, PyData.depth, PL_map]
      have := depthAll_le (xs.map P) (n + 1) fun y hy => by
        obtain ⟨z, hz, rfl⟩ := List.mem_map.mp hy
        exact depth_pl n z (h z hz)
      omega
    | tup xs =>
      simp only [pl, List.all_eq_true] at h
      simp only [P, PyData.depth, PL_map]
      have := depthAll_le (xs.map P) (n + 1) fun y hy => by
        obtain ⟨z, hz, rfl⟩ := List.mem_map.mp hy
        exact depth_pl n z (h z hz)
      omega
    | _ => simp_all [pl, P, PyData.depth]
theorem canLayAll_of : ∀ (xs : List PyData), (∀ x ∈ xs, x.canLay0 = true) → PyData.canLayAll0 xs = true
  | [], _ => by simp [PyData.canLayAll0]
  | x :: xs, h => by
    simp only [PyData.canLayAll0, Bool.and_eq_true]
    exact ⟨h x (by simp), canLayAll_of xs fun y hy => h y (by simp [hy])⟩

section
variable {T : Ct} {G H : Hp}
theorem rep_dpAll (IH : ∀ (x : D) (v : V), x ∈ ([] : List D) → Rep T G x v → Dp T.K H v (P x)) : True := trivial
/-- what a plain datum reads as -/
theorem rep_dp (s : Same G H) : ∀ (n : Nat) (x : D) (v : V), pl n x = true → Rep T G x v → Dp T.K H v (P x) ∧ (P x).canLay0 = true := by
  have all : ∀ (n : Nat) (IH : ∀ (x : D) (v : V), pl n x = true → Rep T G x v → Dp T.K H v (P x) ∧ (P x).canLay0 = true) (xs : List D) (vs : List V), xs.all (pl n) = true → RepL T G xs vs →
      DpAll T.K H vs (PL xs) ∧ PyData.canLayAll0 (PL xs) = true := by
    intro n IH xs
    induction xs with
    | nil => intro vs _ h; simp only [RepL] at h; subst h; exact ⟨.nil, by simp [PL, PyData.canLayAll0]⟩
    | cons x xs ih =>
      intro vs h r
      simp only [RepL] at r
      obtain ⟨v, rr, rfl, h2, h3⟩ := r
      simp only [List.all_cons, Bool.and_eq_true] at h
      obtain ⟨a, b⟩ := IH x v h.1 h2
      obtain ⟨c, d⟩ := ih rr h.2 h3
      exact ⟨.cons a c, by simp [PL, PyData.canLayAll0, b, d]⟩
  intro n
  induction n with
  | zero =>
    intro x v h r
    cases x with
    | non => simp only [Rep] at r; subst r; exact ⟨.non, by simp [P, PyData.canLay0]⟩
    | bl b => simp only [Rep] at r; subst r; exact ⟨.bl b, by simp [P, PyData.canLay0]⟩
    | int i => simp only [Rep] at r; subst r; exact ⟨.int i, by simp [P, PyData.canLay0]⟩
    | str z => simp only [Rep] at r; obtain ⟨rfl, hs⟩ := r; exact ⟨.str z, by simpa [P, PyData.canLay0] using hs⟩
    | lst xs =>
      simp only [pl, List.isEmpty_iff] at h; subst h
      simp only [Rep] at r
      obtain ⟨p, vs, rfl, h1, h2⟩ := r
      simp only [RepL] at h2; subst h2
      exact ⟨.lst (.of (s _ _ h1)) .nil, by simp [P, PL, PyData.canLay0, PyData.canLayAll0]⟩
    | tup xs =>
      simp only [pl, List.isEmpty_iff] at h; subst h
      simp only [Rep] at r
      obtain ⟨p, vs, rfl, h1, h2⟩ := r
      simp only [RepL] at h2; subst h2
      exact ⟨.tup (SqT.of (s _ _ h1)) .nil, by simp [P, PL, PyData.canLay0, PyData.canLayAll0]⟩
    | _ => exact absurd h (by simp [pl])
  | succ n ih =>
    intro x v h r
    cases x with
    | non => simp only [Rep] at r; subst r; exact ⟨.non, by simp [P, PyData.canLay0]⟩
    | bl b => simp only [Rep] at r; subst r; exact ⟨.bl b, by simp [P, PyData.canLay0]⟩
    | int i => simp only [Rep] at r; subst r; exact ⟨.int i, by simp [P, PyData.canLay0]⟩
    | str z => simp only [Rep] at r; obtain ⟨rfl, hs⟩ := r; exact ⟨.str z, by simpa [P, PyData.canLay0] using hs⟩
    | lst xs =>
      simp only [pl] at h
      simp only [Rep] at r
      obtain ⟨p, vs, rfl, h1, h2⟩ := r
      obtain ⟨a, b⟩ := all n ih xs vs h h2
      exact ⟨.lst (.of (s _ _ h1)) a, by simpa [P, PyData.canLay0] using b⟩
    | tup xs =>
      simp only [pl] at h
      simp only [Rep] at r
      obtain ⟨p, vs, rfl, h1, h2⟩ := r
      obtain ⟨a, b⟩ := all n ih xs vs h h2
      exact ⟨.tup (SqT.of (s _ _ h1)) a, by simpa [P, PyData.canLay0] using b⟩
    | _ => exact absurd h (by simp [pl])
theorem repL_dp (s : Same G H) (n : Nat) : ∀ (xs : List D) (vs : List V), xs.all (pl n) = true → RepL T G xs vs → DpAll T.K H vs (PL xs) ∧ PyData.canLayAll0 (PL xs) = true
  | [], vs, _, h => by simp only [RepL] at h; subst h; exact ⟨.nil, by simp [PL, PyData.canLayAll0]⟩
  | x :: xs, vs, h, r => by
    simp only [RepL] at r
    obtain ⟨v, rr, rfl, h2, h3⟩ := r
    simp only [List.all_cons, Bool.and_eq_true] at h
    obtain ⟨a, b⟩ := rep_dp s n x v h.1 h2
    obtain ⟨c, d⟩ := repL_dp s n xs rr h.2 h3
    exact ⟨.cons a c, by simp [PL, PyData.canLayAll0, b, d]⟩
/-- .. the same of an own cell -/
theorem repB_dp (s : Same G H) {n : Nat} {x : D} {v : V} (h : pl n x = true) (r : RepB T G H x v) : Dp T.K H v (P x) ∧ (P x).canLay0 = true := by
  rcases r with r | ⟨p, rfl, hg, o⟩
  · exact rep_dp s n x v h r
  · cases x with
    | lst xs =>
      obtain ⟨vs, h1, h2⟩ := o
      cases n with
      | zero =>
        simp only [pl, List.isEmpty_iff] at h; subst h
        simp only [RepL] at h2; subst h2
        exact ⟨.lst (.of h1) .nil, by simp [P, PL, PyData.canLay0, PyData.canLayAll0]⟩
      | succ n =>
        simp only [pl] at h
        obtain ⟨a, b⟩ := repL_dp s n xs vs h h2
        exact ⟨.lst (.of h1) a, by simpa [P, PyData.canLay0] using b⟩
    | dct _ _ _ => exact absurd h (by cases n <;> simp [pl])
    | ins _ _ _ => exact absurd h (by cases n <;> simp [pl])
    | _ => exact o.elim
theorem shaped_pl {n : Nat} {x : D} (hn : n ≤ 60) (h : pl n x = true) (c : (P x).canLay0 = true) : SeqAt.shaped (P x) = true := by
  unfold SeqAt.shaped
  have := depth_pl n x h
  simp only [Bool.and_eq_true, decide_eq_true_eq]
  exact ⟨c, by omega⟩
end

/-! ### names and constants -/
def eV (i : Nat) : En → R D := fun e => match e[i]? with
  | some (.fz d) => ok d
  | _ => none
def bV (i : Nat) : En → R D := fun e => match e[i]? with
  | some (.fz d) => ok d
  | some (.ow d) => ok d
  | _ => none
def eC (d : D) : En → R D := fun _ => ok d
section
variable {T : Ct} {W : WX} {X : Cx}
theorem de_var {e : Expr} {i : Nat} (h : PE X e (tVar i)) : PE X e (tE T W (eV i)) := by
  refine PE.imp h fun σ H Q l ⟨G0, H0, G, e, r, s, hf, hp⟩ => ?_
  unfold eV at hf
  split at hf
  · rename_i d hd
    cases hf
    obtain ⟨u, a, b⟩ := s.sl i _ hd
    exact ⟨u, a, fun _ => hp u G H (Good.refl s.same) l b⟩
  · cases hf
theorem db_var {e : Expr} {i : Nat} (h : PE X e (tVar i)) : PE X e (tB T W (bV i)) := by
  refine PE.imp h fun σ H Q l ⟨G0, H0, G, e, r, s, hf, hp⟩ => ?_
  unfold bV at hf
  split at hf
  · rename_i d hd
    cases hf
    obtain ⟨u, a, b⟩ := s.sl i _ hd
    exact ⟨u, a, fun _ => hp u G H (Good.refl s.same) l (.inl b)⟩
  · rename_i d hd
    cases hf
    obtain ⟨p, a, b, c, o, _⟩ := s.sl i _ hd
    exact ⟨_, a, fun _ => hp _ G H (Good.refl s.same) l (.inr ⟨p, rfl, b, o⟩)⟩
  · cases hf
theorem de_c {e : Expr} {v : V} {d : D} (h : PE X e (tC v)) (hr : ∀ G, Rep T G d v) : PE X e (tE T W (eC d)) := by
  refine PE.imp h fun σ H Q l ⟨G0, H0, G, e, r, s, hf, hp⟩ => ?_
  cases hf
  exact fun _ => hp v G H (Good.refl s.same) l (hr G)
theorem de_int {i j pos} : PE X (.Constant (.int i) j pos) (tE T W (eC (.int i))) := de_c pe_int fun _ => by simp [Rep]
theorem de_bl {i j pos} : PE X (.Constant (.bool i) j pos) (tE T W (eC (.bl i))) := de_c pe_bl fun _ => by simp [Rep]
theorem de_non {j pos} : PE X (.Constant .none j pos) (tE T W (eC .non)) := de_c pe_non fun _ => by simp [Rep]
theorem de_str {x j pos} (h : PyData.strOk x = true := by decide +kernel) : PE X (.Constant (.str x) j pos) (tE T W (eC (.str x))) := de_c pe_str fun _ => by simp [Rep, h]

/-! ### two-place operations -/
def e2 (g : D → D → R D) (fa fb : En → R D) : En → R D := fun e => bR (fa e) fun x => bR (fb e) fun y => g x y
/-- an operation on values does what g says of data -/
structure OpD (T : Ct) (X : Cx) (g : D → D → R D) (r : R2) : Prop where
  noE : ∀ x y z, g x y ≠ some (.err z)
  run : ∀ (x y d : D) (v u : V) (G H : Hp) (Q : VK), HLen H → Same G H → RepB T G H x v → RepB T G H y u → g x y = ok d → (∀ w G' H', Good G H G' H' → Rep T G' d w → Q w H') → r v u H Q
/-- .. a new cell -/
structure OpF (T : Ct) (X : Cx) (g : D → D → R D) (r : R2) : Prop where
  noE : ∀ x y z, g x y ≠ some (.err z)
  run : ∀ (x y d : D) (v u : V) (G H : Hp) (Q : VK), HLen H → Same G H → RepB T G H x v → RepB T G H y u → g x y = ok d →
    (∀ p G' H', Good G H G' H' → H p = none → G' p = none → Own T G' H' p d → (∀ dx fs C, H' p = some (.ins C dx fs) → H dx = none) → Q (.ref p) H') → r v u H Q
section
variable {a b : Expr} {fa fb : En → R D} {g : D → D → R D} {r : R2} {t : TE}
theorem op2core (hd : OpD T X g r) {σ : St} {G0 H0 G H : Hp} {e : En} {rr : Rs D} {kk : D → Prop} {Q : VK} (s : StOk T G0 H0 G H σ e) (hf : e2 g fa fb e = some rr) (hp : PV T W G H σ kk rr)
    (hq : ∀ d v G' H', kk d → Good G H G' H' → Rep T G' d v → Q v H') : tOp r (tB T W fa) (tB T W fb) σ H Q := by
  refine seqB s hf hp fun x v G1 H1 g1 l1 s1 rx hk => ?_
  refine seqB (kk := fun _ => True) s1 hk (hp.ext g1 fun _ _ => trivial) fun y u G2 H2 g2 l2 s2 ry hk2 => ?_
  cases rr with
  | err z => exact absurd hk2 (hd.noE x y z)
  | ok d => exact hd.run x y d v u G2 H2 _ l2 s2.same (rx.good g2) ry hk2 fun w G' H' g' rw => hq d w G' H' hp ((g1.trans g2).trans g') rw
theorem op2E (hd : OpD T X g r) (h : PE X a t) (ht : t = tOp r (tB T W fa) (tB T W fb)) : PE X a (tE T W (e2 g fa fb)) := by
  subst ht
  refine PE.imp h fun σ H Q l ⟨G0, H0, G, e, r, s, hf, hp⟩ => ?_
  exact op2core hd s hf hp fun d v G' H' k g rw => fun l' => k v G' H' g l' rw
theorem op2F (hd : OpF T X g r) (h : PE X a t) (ht : t = tOp r (tB T W fa) (tB T W fb)) : PE X a (tF T W (e2 g fa fb)) := by
  subst ht
  refine PE.imp h fun σ H Q l ⟨G0, H0, G, e, r, s, hf, hp⟩ => ?_
  refine seqB s hf hp fun x v G1 H1 g1 l1 s1 rx hk => ?_
  refine seqB (kk := fun _ => True) s1 hk (hp.ext g1 fun _ _ => trivial) fun y u G2 H2 g2 l2 s2 ry hk2 => ?_
  cases q : r with
  | err z => subst q; exact absurd hk2 (hd.noE x y z)
  | ok d =>
    subst q
    have g12 := g1.trans g2
    have back : ∀ a, H2 a = none → H a = none := fun a h => g12.hh.free h
    exact hd.run x y d v u G2 H2 _ l2 s2.same (rx.good g2) ry hk2 fun p G' H' g' h1 h2 o hx => fun l' => hp p G' H' (g12.trans g') l' (back p h1) h2 o fun dx fs C z => back dx (hx dx fs C z)
theorem de_op {op : Operator} {pos : Pos} (hd : OpD T X g r) (ho : OpR X (binaryOp op) r) (ha : PE X a (tB T W fa)) (hb : PE X b (tB T W fb)) : PE X (.BinOp a op b pos) (tE T W (e2 g fa fb)) := op2E hd (pe_op ho ha hb) rfl
theorem df_op {op : Operator} {pos : Pos} (hd : OpF T X g r) (ho : OpR X (binaryOp op) r) (ha : PE X a (tB T W fa)) (hb : PE X b (tB T W fb)) : PE X (.BinOp a op b pos) (tF T W (e2 g fa fb)) := op2F hd (pe_op ho ha hb) rfl
theorem de_cmp {op : CmpOp} {pos : Pos} (hd : OpD T X g r) (ho : OpR X (compareOp op) r) (ha : PE X a (tB T W fa)) (hb : PE X b (tB T W fb)) (hm : behindInMarks op b = false) : PE X (.Compare a [op] [b] pos) (tE T W (e2 g fa fb)) := op2E hd (pe_cmpR ho ha hb hm) rfl
end
end
end DL

namespace DL
open PySem PySem.Spec L2
open PyProof.Rows hiding St

/-! ### keys -/
def keyOf : D → Option Key
  | .int i => some (.inl i)
  | .str x => some (.inr x)
  | _ => none
def keysOf : List D → Option (List Key)
  | [] => some []
  | d :: ds => (keyOf d).bind fun k => (keysOf ds).map (k :: ·)
theorem keyOf_eq {d : D} {k : Key} (h : keyOf d = some k) : d = keyD k := by
  cases d <;> simp only [keyOf] at h <;> first | (cases h; done) | (cases h; rfl)
theorem keysOf_eq : ∀ {ds : List D} {ks : List Key}, keysOf ds = some ks → ds = ks.map keyD
  | [], ks, h => by cases h; rfl
  | d :: ds, ks, h => by
    simp only [keysOf] at h
    obtain ⟨k, h1, h2⟩ := Option.bind_eq_some_iff.mp h
    obtain ⟨r, h3, rfl⟩ := Option.map_eq_some_iff.mp h2
    rw [keyOf_eq h1, keysOf_eq h3]; rfl
theorem deq_key (a b : Key) : deq (keyD a) (keyD b) = decide (a = b) := by
  cases a <;> cases b <;> simp [deq, keyD, P, PyData.eqv] <;> first | rfl | (rw [Bool.eq_iff_iff]; simp)
theorem eqvAll_keys : ∀ a b : List Key, PyData.eqvAll (PL (a.map keyD)) (PL (b.map keyD)) = decide (a = b)
  | [], [] => by simp [PL, PyData.eqvAll]
  | [], _ :: _ => by simp [PL, PyData.eqvAll]
  | _ :: _, [] => by simp [PL, PyData.eqvAll]
  | a :: as, b :: bs => by
    have h1 := deq_key a b
    unfold deq at h1
    simp only [List.map_cons, PL, PyData.eqvAll, h1, eqvAll_keys as bs]
    by_cases e : a = b <;> by_cases e2 : as = bs <;> simp [e, e2]
theorem deq_keys (a b : List Key) : deq (.tup (a.map keyD)) (.tup (b.map keyD)) = decide (a = b) := by
  unfold deq
  simp only [P, PyData.eqv, eqvAll_keys]
/-! ### tables of data -/
def dget : List D → List D → D → Option D
  | k :: ks, v :: vs, x => if deq k x = true then some v else dget ks vs x
  | _, _, _ => none
def drep : List D → List D → D → D → List D
  | k :: ks, v :: vs, x, y => (if deq k x = true then y else v) :: drep ks vs x y
  | _, vs, _, _ => vs
def dhas (ks : List D) (x : D) : Bool := ks.any fun k => deq k x
def dputK (ks : List D) (x : D) : List D := if dhas ks x = true then ks else ks ++ [x]
def dputV (ks vs : List D) (x y : D) : List D := if dhas ks x = true then drep ks vs x y else vs ++ [y]
section
variable {T : Ct} {G : Hp} {κ : Type} [DecidableEq κ] {enc : κ → D} (hd : ∀ a b, deq (enc a) (enc b) = decide (a = b))
include hd
theorem dhas_enc (k : κ) : ∀ kvs : List (κ × V), dhas (kvs.map fun q => enc q.1) (enc k) = kvs.any fun kv => decide (kv.1 = k)
  | [] => rfl
  | q :: r => by
    have ih := dhas_enc k r
    unfold dhas at ih ⊢
    rw [List.map_cons, List.any_cons, List.any_cons, ih, hd]
theorem dhas_some (k : κ) (kvs : List (κ × V)) : dhas (kvs.map fun q => enc q.1) (enc k) = (valV kvs k).isSome := by
  rw [dhas_enc hd, valV_any]
theorem dget_enc (k : κ) : ∀ {kvs : List (κ × V)} {vs : List D} {d : D}, RepL T G vs (kvs.map (·.2)) → dget (kvs.map fun q => enc q.1) vs (enc k) = some d → ∃ v, valV kvs k = some v ∧ Rep T G d v
  | [], vs, d, h, q => by
    simp [dget] at q
  | p :: r, vs, d, h, q => by
    cases vs with
    | nil => simp [dget] at q
    | cons w vs =>
      simp only [List.map_cons, RepL] at h
      obtain ⟨v, rr, e, h1, h2⟩ := h
      cases e
      simp only [List.map_cons, dget, hd] at q
      by_cases e : p.1 = k
      · simp only [e, decide_true, if_true] at q
        cases q
        exact ⟨p.2, valV_pos e, h1⟩
      · simp only [e, decide_false, Bool.false_eq_true, if_false] at q
        obtain ⟨u, a, b⟩ := dget_enc k h2 q
        exact ⟨u, by rw [valV_neg e]; exact a, b⟩
theorem drep_enc (k : κ) {y : V} {dy : D} (ry : Rep T G dy y) : ∀ {kvs : List (κ × V)} {vs : List D}, RepL T G vs (kvs.map (·.2)) → RepL T G (drep (kvs.map fun q => enc q.1) vs (enc k) dy) ((kvs.map fun kv => if kv.1 = k then (kv.1, y) else kv).map (·.2))
  | [], vs, h => by
    simp only [List.map_nil, drep]
    exact h
  | p :: r, vs, h => by
    cases vs with
    | nil => simp only [List.map_cons, RepL] at h; cases h
    | cons w vs =>
      simp only [List.map_cons, RepL] at h
      obtain ⟨v, rr, e, h1, h2⟩ := h
      cases e
      have ih := drep_enc k ry h2
      simp only [List.map_cons, drep, hd]
      by_cases e : p.1 = k
      · simp only [e, decide_true, if_true]
        exact .cons ry ih
      · simp only [e, decide_false, Bool.false_eq_true, if_false]
        exact .cons h1 ih
theorem rep_keys (k : κ) (y : V) (kvs : List (κ × V)) : (kvs.map fun kv => if kv.1 = k then (kv.1, y) else kv).map (fun q => enc q.1) = kvs.map fun q => enc q.1 := by
  rw [List.map_map]
  apply List.map_congr_left
  intro p _
  simp only [Function.comp]
  split <;> rfl
theorem dput_enc (k : κ) {y : V} {dy : D} (ry : Rep T G dy y) {kvs : List (κ × V)} {vs : List D} (h : RepL T G vs (kvs.map (·.2))) :
    dputK (kvs.map fun q => enc q.1) (enc k) = (putK kvs k y).map (fun q => enc q.1) ∧ RepL T G (dputV (kvs.map fun q => enc q.1) vs (enc k) dy) ((putK kvs k y).map (·.2)) := by
  unfold dputK dputV putK
  rw [dhas_enc hd]
  split
  · exact ⟨(rep_keys hd k y kvs).symm, drep_enc hd k ry h⟩
  · refine ⟨by simp, ?_⟩
    rw [List.map_append]
    exact h.append (.cons ry .nil)
end
theorem putK_ok {κ : Type} [DecidableEq κ] {f : κ → Bool} {kvs : List (κ × V)} {k : κ} {y : V} (h : (kvs.all fun q => f q.1) = true) (hk : f k = true) : ((putK kvs k y).all fun q => f q.1) = true := by
  unfold putK
  rw [List.all_eq_true] at h ⊢
  intro q hq
  split at hq
  · obtain ⟨p, hp, rfl⟩ := List.mem_map.mp hq
    have := h p hp
    split <;> exact this
  · rcases List.mem_append.mp hq with m | m
    · exact h q m
    · rw [List.mem_singleton] at m; subst m; exact hk
/-- the datum is a key of that kind of dict -/
def kOk (t : Bool) (x : D) : Bool := match x with
  | .tup xs => t && (keysOf xs).isSome
  | x => !t && (keyOf x).isSome
def kEnc : Bool → Type
  | false => Key
  | true => List Key
section
variable {T : Ct} {G H : Hp} {v : V}
theorem keyD_V {k : Key} (r : Rep T G (keyD k) v) : v = kV k ∧ keyOk k = true := by
  cases k with
  | inl i => simp only [keyD, Rep] at r; exact ⟨r, rfl⟩
  | inr x => simp only [keyD, Rep] at r; exact ⟨r.1, r.2⟩
theorem keysD_V : ∀ {ks : List Key} {vs : List V}, RepL T G (ks.map keyD) vs → vs = ks.map kV ∧ ks.all keyOk = true
  | [], vs, r => by simp only [List.map_nil, RepL] at r; exact ⟨r, rfl⟩
  | k :: ks, vs, r => by
    simp only [List.map_cons, RepL] at r
    obtain ⟨u, rr, rfl, h1, h2⟩ := r
    obtain ⟨a, b⟩ := keyD_V h1
    obtain ⟨c, d⟩ := keysD_V h2
    exact ⟨by rw [a, c]; rfl, by rw [List.all_cons, b, d]; rfl⟩
theorem kOk_f {x : D} (h : kOk false x = true) : ∃ k, x = keyD k := by
  unfold kOk at h
  split at h
  · simp at h
  · simp only [Bool.not_false, Bool.true_and] at h
    obtain ⟨k, hk⟩ := Option.isSome_iff_exists.mp h
    exact ⟨k, keyOf_eq hk⟩
theorem kOk_t {x : D} (h : kOk true x = true) : ∃ k : List Key, x = .tup (k.map keyD) := by
  unfold kOk at h
  split at h
  · rename_i xs
    simp only [Bool.true_and] at h
    obtain ⟨k, hk⟩ := Option.isSome_iff_exists.mp h
    exact ⟨k, by rw [keysOf_eq hk]⟩
  · simp at h
end
end DL

namespace DL
open PySem PySem.Spec L2
open PyProof.Rows hiding St
open PySem.W (alike alikeAll dataLt)

theorem strOk_append {a b : Str} (h : PyData.strOk a = true) (k : PyData.strOk b = true) : PyData.strOk (a ++ b) = true := by
  show (a.cps ++ b.cps).all _ = true
  rw [Array.all_append, Bool.and_eq_true]
  exact ⟨h, k⟩
theorem le_line {n : Nat} (h : n ≤ 16777216) : n ≤ sizeLine := by rw [sizeLine_eq]; exact h
theorem lt_line {n : Nat} (h : n < 16777216) : n < sizeLine := by rw [sizeLine_eq]; exact h
section
variable {T : Ct} {G H : Hp} {v : V}
theorem rb_int {i : Int} (r : RepB T G H (.int i) v) : v = .int i := by
  rcases r with r | ⟨p, _, _, o⟩
  · simpa only [Rep] using r
  · exact o.elim
theorem rb_bl {i : Bool} (r : RepB T G H (.bl i) v) : v = .bl i := by
  rcases r with r | ⟨p, _, _, o⟩
  · simpa only [Rep] using r
  · exact o.elim
theorem rb_non (r : RepB T G H .non v) : v = .non := by
  rcases r with r | ⟨p, _, _, o⟩
  · simpa only [Rep] using r
  · exact o.elim
theorem rb_str {x : Str} (r : RepB T G H (.str x) v) : v = .str x ∧ PyData.strOk x = true := by
  rcases r with r | ⟨p, _, _, o⟩
  · simpa only [Rep] using r
  · exact o.elim
theorem rb_lst {ds : List D} (s : Same G H) (r : RepB T G H (.lst ds) v) : ∃ p vs, v = .ref p ∧ H p = some (.lst vs) ∧ RepL T G ds vs := by
  rcases r with r | ⟨p, e, _, o⟩
  · simp only [Rep] at r
    obtain ⟨p, vs, h1, h2, h3⟩ := r
    exact ⟨p, vs, h1, s _ _ h2, h3⟩
  · obtain ⟨vs, h1, h2⟩ := o
    exact ⟨p, vs, e, h1, h2⟩
theorem rb_tup0 {ds : List D} (r : RepB T G H (.tup ds) v) : ∃ p vs, v = .ref p ∧ G p = some (.tup vs) ∧ RepL T G ds vs := by
  rcases r with r | ⟨p, e, _, o⟩
  · simpa only [Rep] using r
  · exact o.elim
theorem rb_tup {ds : List D} (s : Same G H) (r : RepB T G H (.tup ds) v) : ∃ p vs, v = .ref p ∧ SqT T.K G p vs ∧ RepL T G ds vs := by
  obtain ⟨p, vs, h1, h2, h3⟩ := rb_tup0 r
  exact ⟨p, vs, h1, SqT.of h2, h3⟩
theorem rb_rep_tup {ds : List D} (r : RepB T G H (.tup ds) v) : Rep T G (.tup ds) v := by
  rcases r with r | ⟨p, e, _, o⟩
  · exact r
  · exact o.elim
theorem rb_scr {ns : List Int} (r : RepB T G H (.scr ns) v) : ∃ p, v = .ref p ∧ SqL T.K G p (ns.map V.int) := by
  rcases r with r | ⟨p, e, _, o⟩
  · simpa only [Rep] using r
  · exact o.elim
theorem rep_int {i : Int} : Rep T G (.int i) (.int i) := by simp [Rep]
theorem rep_bl {i : Bool} : Rep T G (.bl i) (.bl i) := by simp [Rep]
theorem rep_non : Rep T G .non .non := by simp [Rep]
theorem rep_str {x : Str} (h : PyData.strOk x = true) : Rep T G (.str x) (.str x) := by simp [Rep, h]
/-- a new tuple, a new list -/
theorem new_tup {ds : List D} {vs : List V} {p : Addr} (s : Same G H) (hp : H p = none) (r : RepL T G ds vs) : Good G H (upd G p (.tup vs)) (upd H p (.tup vs)) ∧ Rep T (upd G p (.tup vs)) (.tup ds) (.ref p) := by
  refine ⟨Good.new s hp, ?_⟩
  simp only [Rep]
  exact ⟨p, vs, rfl, upd_same, r.mono (same_join (s.free hp))⟩
theorem new_lst {ds : List D} {vs : List V} {p : Addr} (s : Same G H) (hp : H p = none) (r : RepL T G ds vs) : Good G H (upd G p (.lst vs)) (upd H p (.lst vs)) ∧ Rep T (upd G p (.lst vs)) (.lst ds) (.ref p) := by
  refine ⟨Good.new s hp, ?_⟩
  simp only [Rep]
  exact ⟨p, vs, rfl, upd_same, r.mono (same_join (s.free hp))⟩
theorem fresh_lst {ds : List D} {vs : List V} {p : Addr} (s : Same G H) (hp : H p = none) (r : RepL T G ds vs) :
    Good G H G (upd H p (.lst vs)) ∧ G p = none ∧ Own T G (upd H p (.lst vs)) p (.lst ds) ∧ (∀ dx fs C, (upd H p (.lst vs)) p = some (.ins C dx fs) → H dx = none) :=
  ⟨Good.newO s hp, s.free hp, ⟨vs, upd_same, r⟩, fun dx fs C z => by rw [upd_same] at z; cases z⟩
end

/-! ### arithmetic -/
def gAdd : D → D → R D
  | .int a, .int b => ok (.int (a + b))
  | .str a, .str b => if a.length + b.length ≤ 16777216 then ok (.str (a ++ b)) else none
  | .lst a, .lst b => if a.length + b.length ≤ 16777216 then ok (.lst (a ++ b)) else none
  | .tup a, .tup b => if a.length + b.length ≤ 16777216 then ok (.tup (a ++ b)) else none
  | _, _ => none
def gSub : D → D → R D
  | .int a, .int b => ok (.int (a - b))
  | _, _ => none
def gMul : D → D → R D
  | .int a, .int b => if a.natAbs < 18446744073709551616 ∨ b.natAbs < 18446744073709551616 then ok (.int (a * b)) else none
  | .lst a, .int b => if 0 ≤ b ∧ b.natAbs < 1000000 ∧ a.length ≤ 16 then ok (.lst (List.replicate b.toNat a).flatten) else none
  | _, _ => none
def gMod : D → D → R D
  | .int a, .int b => if 0 < b then ok (.int (a % b)) else none
  | _, _ => none
def gDiv : D → D → R D
  | .int a, .int b => if 0 < b ∧ b.natAbs < 1073741824 then ok (.int (a / b)) else none
  | _, _ => none
def gPow : D → D → R D
  | .int a, .int b => if 0 ≤ b ∧ b.natAbs ≤ 1000 ∧ a.natAbs < 18446744073709551616 then ok (.int (a ^ b.toNat)) else none
  | _, _ => none
def rAddA (K : PySem.W.Frag) : R2 := fun x y H Q => (rI0 fun i j => .int (i + j)) x y H Q ∨ (fun x y H Q => (fun x y H Q => ∃ i j, x = .str i ∧ y = .str j ∧ i.length + j.length ≤ sizeLine ∧ Q (.str (i ++ j)) H) x y H Q ∨ (fun x y H Q => rCat x y H Q ∨ rCatA K x y H Q) x y H Q) x y H Q
section
variable {T : Ct} {W : WX} {X : Cx}
theorem op_addA : OpR X (binaryOp .Add) (rAddA X.K) := op_add.or (op_add_str.or (op_cat.or op_catA))
theorem noE_of {g : D → D → R D} (h : ∀ x y, g x y = none ∨ ∃ d, g x y = ok d) : ∀ x y z, g x y ≠ some (.err z) := fun x y z e => by
  rcases h x y with h | ⟨d, h⟩ <;> rw [e] at h <;> cases h
theorem if_ok {c : Prop} [Decidable c] {d e : D} (h : (if c then ok d else none) = ok e) : c ∧ d = e := by
  split at h
  · rename_i hc
    exact ⟨hc, by injection h with h; injection h⟩
  · cases h
theorem if_ne {c : Prop} [Decidable c] {d : D} : (if c then ok d else none) = none ∨ ∃ e, (if c then ok d else none) = ok e := by
  split
  · exact .inr ⟨_, rfl⟩
  · exact .inl rfl
theorem ok_inj {d e : D} (h : (ok d : R D) = ok e) : d = e := by injection h with h; injection h
theorem od_add (hK : T.K = X.K) : OpD T X gAdd (rAddA X.K) where
  noE := noE_of fun x y => by unfold gAdd; split <;> first | exact if_ne | exact .inr ⟨_, rfl⟩ | exact .inl rfl
  run := by
    intro x y d v u G H Q l s rx ry h q
    cases x <;> cases y <;> simp only [gAdd] at h <;> try cases h
    · obtain rfl := rb_int rx
      obtain rfl := rb_int ry
      exact .inl ⟨_, _, rfl, rfl, q _ G H (Good.refl s) rep_int⟩
    · obtain ⟨rfl, h1⟩ := rb_str rx
      obtain ⟨rfl, h2⟩ := rb_str ry
      obtain ⟨c, rfl⟩ := if_ok h
      exact .inr (.inl ⟨_, _, rfl, rfl, le_line c, q _ G H (Good.refl s) (rep_str (strOk_append h1 h2))⟩)
    · obtain ⟨p, vs, rfl, h1, r1⟩ := rb_lst s rx
      obtain ⟨p2, vs2, rfl, h2, r2⟩ := rb_lst s ry
      obtain ⟨c, rfl⟩ := if_ok h
      rw [r1.length, r2.length] at c
      exact .inr (.inr (.inl ⟨_, _, _, _, rfl, rfl, h1, h2, le_line c, fun p hp => let ⟨g, r⟩ := new_lst s hp (r1.append r2); q _ _ _ g r⟩))
    · obtain ⟨p, vs, rfl, h1, r1⟩ := rb_tup s rx
      obtain ⟨p2, vs2, rfl, h2, r2⟩ := rb_tup s ry
      obtain ⟨c, rfl⟩ := if_ok h
      rw [hK] at h1 h2
      have c2 := c
      rw [r1.length, r2.length] at c2
      refine .inr (.inr (.inr ⟨_, _, _, _, rfl, rfl, sqT_mono s h1, sqT_mono s h2, le_line c2, fun e => ?_, fun _ e => ?_, fun _ _ p hp => ?_⟩))
      · subst e
        have : _ = [] := List.eq_nil_of_length_eq_zero r1.length
        subst this
        exact q _ G H (Good.refl s) (rb_rep_tup ry)
      · subst e
        have : _ = [] := List.eq_nil_of_length_eq_zero r2.length
        subst this
        rw [List.append_nil] at *
        exact q _ G H (Good.refl s) (rb_rep_tup rx)
      · exact let ⟨g, r⟩ := new_tup s hp (r1.append r2); q _ _ _ g r
/-- xs + ys as a new own list -/
def gCat : D → D → R D
  | .lst a, .lst b => if a.length + b.length ≤ 16777216 then ok (.lst (a ++ b)) else none
  | _, _ => none
theorem of_cat : OpF T X gCat rCat where
  noE := noE_of fun x y => by unfold gCat; split <;> first | exact if_ne | exact .inr ⟨_, rfl⟩ | exact .inl rfl
  run := by
    intro x y d v u G H Q l s rx ry h q
    cases x <;> cases y <;> simp only [gCat] at h <;> try cases h
    obtain ⟨p, vs, rfl, h1, r1⟩ := rb_lst s rx
    obtain ⟨p2, vs2, rfl, h2, r2⟩ := rb_lst s ry
    obtain ⟨c, rfl⟩ := if_ok h
    rw [r1.length, r2.length] at c
    exact ⟨_, _, _, _, rfl, rfl, h1, h2, le_line c, fun p hp => let ⟨g, a, b, c⟩ := fresh_lst s hp (r1.append r2); q _ _ _ g hp a b c⟩
theorem od_sub : OpD T X gSub (rI0 fun i j => .int (i - j)) where
  noE := noE_of fun x y => by unfold gSub; split <;> first | exact if_ne | exact .inr ⟨_, rfl⟩ | exact .inl rfl
  run := by
    intro x y d v u G H Q l s rx ry h q
    cases x <;> cases y <;> simp only [gSub] at h <;> try cases h
    obtain rfl := rb_int rx
    obtain rfl := rb_int ry
    exact ⟨_, _, rfl, rfl, q _ G H (Good.refl s) rep_int⟩
theorem repL_flat {G : Hp} {ds : List D} {vs : List V} (r : RepL T G ds vs) : ∀ n : Nat, RepL T G (List.replicate n ds).flatten (List.replicate n vs).flatten
  | 0 => RepL.nil
  | n + 1 => by rw [List.replicate_succ, List.replicate_succ, List.flatten_cons, List.flatten_cons]; exact r.append (repL_flat r n)
theorem od_mul : OpD T X gMul (fun x y H Q => (rI CMul fun i j => .int (i * j)) x y H Q ∨ rRep x y H Q) where
  noE := noE_of fun x y => by unfold gMul; split <;> first | exact if_ne | exact .inr ⟨_, rfl⟩ | exact .inl rfl
  run := by
    intro x y d v u G H Q l s rx ry h q
    cases x <;> cases y <;> simp only [gMul] at h <;> try cases h
    · obtain rfl := rb_int rx
      obtain rfl := rb_int ry
      obtain ⟨c, rfl⟩ := if_ok h
      exact .inl ⟨_, _, rfl, rfl, by unfold CMul; rw [show (2 : Int) ^ 64 = 18446744073709551616 by decide]; omega, q _ G H (Good.refl s) rep_int⟩
    · obtain ⟨p, vs, rfl, h1, r1⟩ := rb_lst s rx
      obtain rfl := rb_int ry
      obtain ⟨⟨c1, c2, c3⟩, rfl⟩ := if_ok h
      rw [r1.length] at c3
      rename_i n
      have hz : vs.length * n.toNat ≤ 16777216 := by
        have h2 : n.toNat < 1000000 := by omega
        have := Nat.mul_le_mul c3 (Nat.le_of_lt h2)
        omega
      exact .inr ⟨_, _, _, rfl, rfl, h1, by omega, by omega, le_line hz, fun p hp => let ⟨g, r⟩ := new_lst s hp (repL_flat r1 n.toNat); q _ _ _ g r⟩
theorem op_mulA : OpR X (binaryOp .Mult) (fun x y H Q => (rI CMul fun i j => .int (i * j)) x y H Q ∨ rRep x y H Q) := op_mul.or op_rep
theorem od_mod : OpD T X gMod (rI (fun _ j => 0 < j) fun i j => .int (i % j)) where
  noE := noE_of fun x y => by unfold gMod; split <;> first | exact if_ne | exact .inr ⟨_, rfl⟩ | exact .inl rfl
  run := by
    intro x y d v u G H Q l s rx ry h q
    cases x <;> cases y <;> simp only [gMod] at h <;> try cases h
    obtain rfl := rb_int rx
    obtain rfl := rb_int ry
    obtain ⟨c, rfl⟩ := if_ok h
    exact ⟨_, _, rfl, rfl, c, q _ G H (Good.refl s) rep_int⟩
theorem od_div : OpD T X gDiv (rI CDiv fun i j => .int (i / j)) where
  noE := noE_of fun x y => by unfold gDiv; split <;> first | exact if_ne | exact .inr ⟨_, rfl⟩ | exact .inl rfl
  run := by
    intro x y d v u G H Q l s rx ry h q
    cases x <;> cases y <;> simp only [gDiv] at h <;> try cases h
    obtain rfl := rb_int rx
    obtain rfl := rb_int ry
    obtain ⟨c, rfl⟩ := if_ok h
    exact ⟨_, _, rfl, rfl, by unfold CDiv; omega, q _ G H (Good.refl s) rep_int⟩
theorem od_pow : OpD T X gPow (rI CPow fun i j => .int (i ^ j.toNat)) where
  noE := noE_of fun x y => by unfold gPow; split <;> first | exact if_ne | exact .inr ⟨_, rfl⟩ | exact .inl rfl
  run := by
    intro x y d v u G H Q l s rx ry h q
    cases x <;> cases y <;> simp only [gPow] at h <;> try cases h
    obtain rfl := rb_int rx
    obtain rfl := rb_int ry
    obtain ⟨⟨c1, c2, c3⟩, rfl⟩ := if_ok h
    exact ⟨_, _, rfl, rfl, ⟨c1, by omega, by omega⟩, q _ G H (Good.refl s) rep_int⟩

/-! ### comparisons -/
def isE : D → Bool
  | .dct false [] [] => true
  | _ => false
def gEq (x y : D) : R D := if isE x = true ∧ isE y = true then ok (.bl true) else if pl 8 x = true ∧ pl 8 y = true then ok (.bl (deq x y)) else none
def gNe (x y : D) : R D := if isE x = true ∧ isE y = true then ok (.bl false) else if pl 8 x = true ∧ pl 8 y = true then ok (.bl (!deq x y)) else none
def rEqA (K : PySem.W.Frag) : R2 := fun x y H Q => rEqDA x y H Q ∨ rEqD K x y H Q
def rNeA (K : PySem.W.Frag) : R2 := fun x y H Q => rNeDA x y H Q ∨ rNeD K x y H Q
theorem op_eqA (hu : X.A.units + 64 < cLine) : OpR X (compareOp .Eq) (rEqA X.K) := (op_eq_dictA (by omega)).or (op_eqD hu)
theorem op_neA (hu : X.A.units + 64 < cLine) : OpR X (compareOp .NotEq) (rNeA X.K) := (op_ne_dictA (by omega)).or (op_neD hu)
theorem isE_rep {G H : Hp} {x : D} {v : V} (s : Same G H) (h : isE x = true) (r : RepB T G H x v) : ∃ a, v = .ref a ∧ H a = some (.dK []) := by
  unfold isE at h
  split at h
  · rcases r with r | ⟨p, rfl, hg, o⟩
    · simp only [Rep, RepL] at r
      obtain ⟨p, rfl, ⟨kvs, h1, h2, h3, h4⟩ | ⟨kvs, h1, h2, h3, h4⟩⟩ := r
      · rw [List.map_eq_nil_iff] at h4; subst h4
        exact ⟨p, rfl, s _ _ h1⟩
      · cases h2.1
    · rcases o with ⟨kvs, h1, h2, h3, h4⟩ | ⟨kvs, h1, h2, h3, h4⟩
      · simp only [RepL] at h4
        rw [List.map_eq_nil_iff] at h4; subst h4
        exact ⟨p, rfl, h1⟩
      · cases h2.1
  · cases h
theorem if2_ok {c c' : Prop} [Decidable c] [Decidable c'] {d d' e : D} (h : (if c then ok d else if c' then ok d' else none) = ok e) : (c ∧ d = e) ∨ (c' ∧ d' = e) := by
  split at h
  · rename_i hc; exact .inl ⟨hc, ok_inj h⟩
  · exact .inr (if_ok h)
theorem if2_ne {c c' : Prop} [Decidable c] [Decidable c'] {d d' : D} : (if c then ok d else if c' then ok d' else none) = none ∨ ∃ e, (if c then ok d else if c' then ok d' else none) = ok e := by
  split
  · exact .inr ⟨_, rfl⟩
  · exact if_ne
theorem od_eq (hK : T.K = X.K) : OpD T X gEq (rEqA X.K) where
  noE := noE_of fun x y => if2_ne
  run := by
    intro x y d v u G H Q l s rx ry h q
    rcases if2_ok h with ⟨⟨c1, c2⟩, rfl⟩ | ⟨⟨c1, c2⟩, rfl⟩
    · obtain ⟨a, rfl, ha⟩ := isE_rep s c1 rx
      obtain ⟨b, rfl, hb⟩ := isE_rep s c2 ry
      exact .inl ⟨a, b, [], [], rfl, rfl, ha, hb, rfl, (fun p hp => by cases hp), q _ G H (Good.refl s) rep_bl⟩
    · obtain ⟨a1, b1⟩ := repB_dp s c1 rx
      obtain ⟨a2, b2⟩ := repB_dp s c2 ry
      rw [hK] at a1 a2
      exact .inr ⟨_, _, a1, a2, shaped_pl (by decide) c1 b1, shaped_pl (by decide) c2 b2, q _ G H (Good.refl s) rep_bl⟩
theorem od_ne (hK : T.K = X.K) : OpD T X gNe (rNeA X.K) where
  noE := noE_of fun x y => if2_ne
  run := by
    intro x y d v u G H Q l s rx ry h q
    rcases if2_ok h with ⟨⟨c1, c2⟩, rfl⟩ | ⟨⟨c1, c2⟩, rfl⟩
    · obtain ⟨a, rfl, ha⟩ := isE_rep s c1 rx
      obtain ⟨b, rfl, hb⟩ := isE_rep s c2 ry
      exact .inl ⟨a, b, [], [], rfl, rfl, ha, hb, rfl, (fun p hp => by cases hp), q _ G H (Good.refl s) rep_bl⟩
    · obtain ⟨a1, b1⟩ := repB_dp s c1 rx
      obtain ⟨a2, b2⟩ := repB_dp s c2 ry
      rw [hK] at a1 a2
      exact .inr ⟨_, _, a1, a2, shaped_pl (by decide) c1 b1, shaped_pl (by decide) c2 b2, q _ G H (Good.refl s) rep_bl⟩
/-- an order's answer on alike data -/
def rOrd (f : PyData → PyData → Bool) (K : PySem.W.Frag) : R2 := fun x y H Q => ∃ d e, Dp K H x d ∧ Dp K H y e ∧ alike d e = true ∧ d ≠ .none ∧ d.depth ≤ 60 ∧ Q (.bl (f d e)) H
theorem op_ltA (hu : X.A.units + 64 < cLine) : OpR X (compareOp .Lt) (rOrd (fun d e => dataLt d e) X.K) := by
  intro pins s σ H x y v u Q I rx ry h
  obtain ⟨d, e, hd, he, al, hn, dd, q⟩ := h
  obtain ⟨as, r1⟩ := Dp.reads I d x v hd rx
  obtain ⟨bs, r2⟩ := Dp.reads I e y u he ry
  exact PySem.W.lt_data r1 r2 al hn (by have := Nat.min_le_left d.depth e.depth; omega) ⟨.bl _, H, I, rfl, q⟩
theorem op_gtA (hu : X.A.units + 64 < cLine) : OpR X (compareOp .Gt) (rOrd (fun d e => dataLt e d) X.K) := by
  intro pins s σ H x y v u Q I rx ry h
  obtain ⟨d, e, hd, he, al, hn, dd, q⟩ := h
  obtain ⟨as, r1⟩ := Dp.reads I d x v hd rx
  obtain ⟨bs, r2⟩ := Dp.reads I e y u he ry
  exact PySem.W.gt_data r1 r2 al hn (by have := Nat.min_le_left d.depth e.depth; omega) ⟨.bl _, H, I, rfl, q⟩
theorem op_leA (hu : X.A.units + 64 < cLine) : OpR X (compareOp .LtE) (rOrd (fun d e => !dataLt e d) X.K) := by
  intro pins s σ H x y v u Q I rx ry h
  obtain ⟨d, e, hd, he, al, hn, dd, q⟩ := h
  obtain ⟨as, r1⟩ := Dp.reads I d x v hd rx
  obtain ⟨bs, r2⟩ := Dp.reads I e y u he ry
  exact PySem.W.le_data r1 r2 al hn (by have := Nat.min_le_left d.depth e.depth; omega) ⟨.bl _, H, I, rfl, q⟩
theorem op_geA (hu : X.A.units + 64 < cLine) : OpR X (compareOp .GtE) (rOrd (fun d e => !dataLt d e) X.K) := by
  intro pins s σ H x y v u Q I rx ry h
  obtain ⟨d, e, hd, he, al, hn, dd, q⟩ := h
  obtain ⟨as, r1⟩ := Dp.reads I d x v hd rx
  obtain ⟨bs, r2⟩ := Dp.reads I e y u he ry
  exact PySem.W.ge_data r1 r2 al hn (by have := Nat.min_le_left d.depth e.depth; omega) ⟨.bl _, H, I, rfl, q⟩
def isNon : D → Bool
  | .non => true
  | _ => false
def gOrd (f : D → D → Bool) (x y : D) : R D := if pl 8 x = true ∧ pl 8 y = true ∧ dal x y = true ∧ isNon x = false then ok (.bl (f x y)) else none
def gLt : D → D → R D := gOrd fun x y => dlt x y
def gGt : D → D → R D := gOrd fun x y => dlt y x
def gLe : D → D → R D := gOrd fun x y => !dlt y x
def gGe : D → D → R D := gOrd fun x y => !dlt x y
theorem od_ord (hK : T.K = X.K) (f : PyData → PyData → Bool) : OpD T X (gOrd fun x y => f (P x) (P y)) (rOrd f X.K) where
  noE := noE_of fun x y => if_ne
  run := by
    intro x y d v u G H Q l s rx ry h q
    obtain ⟨⟨c1, c2, c3, c4⟩, rfl⟩ := if_ok h
    obtain ⟨a1, b1⟩ := repB_dp s c1 rx
    obtain ⟨a2, b2⟩ := repB_dp s c2 ry
    rw [hK] at a1 a2
    refine ⟨_, _, a1, a2, c3, ?_, by have := depth_pl 8 x c1; omega, q _ G H (Good.refl s) rep_bl⟩
    cases x <;> simp [P, isNon] at *
theorem od_lt (hK : T.K = X.K) : OpD T X gLt (rOrd (fun d e => dataLt d e) X.K) := od_ord hK _
theorem od_gt (hK : T.K = X.K) : OpD T X gGt (rOrd (fun d e => dataLt e d) X.K) := od_ord hK fun d e => dataLt e d
theorem od_le (hK : T.K = X.K) : OpD T X gLe (rOrd (fun d e => !dataLt e d) X.K) := od_ord hK fun d e => !dataLt e d
theorem od_ge (hK : T.K = X.K) : OpD T X gGe (rOrd (fun d e => !dataLt d e) X.K) := od_ord hK fun d e => !dataLt d e

/-! ### in -/
def flatD : D → Bool
  | .non => true
  | .bl _ => true
  | .int _ => true
  | .str _ => true
  | _ => false
def din (x : D) (ys : List D) : Bool := ys.any fun z => deq z x
def gIn : D → D → R D
  | x, .lst ys => if pl 8 x = true ∧ ys.all (pl 8) = true then ok (.bl (din x ys)) else none
  | x, .tup ys => if flatD x = true ∧ ys.all flatD = true then ok (.bl (din x ys)) else none
  | .str x, .str z => match x.cps.toList with
    | [c] => ok (.bl (decide (c ∈ z.cps.toList)))
    | _ => none
  | x, .dct t ks _ => if kOk t x = true then ok (.bl (dhas ks x)) else none
  | _, _ => none
def dnot : D → D
  | .bl b => .bl (!b)
  | d => d
def gNotIn (x y : D) : R D := bR (gIn x y) fun d => ok (dnot d)
theorem gIn_bl {x y d : D} (h : gIn x y = ok d) : ∃ b, d = .bl b := by
  unfold gIn at h
  split at h
  · exact ⟨_, (if_ok h).2.symm⟩
  · exact ⟨_, (if_ok h).2.symm⟩
  · split at h
    · exact ⟨_, (ok_inj h).symm⟩
    · cases h
  · exact ⟨_, (if_ok h).2.symm⟩
  · cases h
theorem gIn_noE : ∀ x y z, gIn x y ≠ some (.err z) := noE_of fun x y => by
  unfold gIn
  split
  · exact if_ne
  · exact if_ne
  · split
    · exact .inr ⟨_, rfl⟩
    · exact .inl rfl
  · exact if_ne
  · exact .inl rfl
theorem dct_get {G H : Hp} {t : Bool} {ks vs : List D} {x : D} {v u : V} (s : Same G H) (c : kOk t x = true) (rx : RepB T G H x v) (ry : RepB T G H (.dct t ks vs) u) :
    ∃ a o, u = .ref a ∧ DGet H a v o ∧ o.isSome = dhas ks x ∧ ∀ d, dget ks vs x = some d → ∃ w, o = some w ∧ Rep T G d w := by
  have hy : ∃ p, u = .ref p ∧ ((∃ kvs : List (Key × V), H p = some (.dK kvs) ∧ (t = false ∧ ks = kvs.map (fun q => keyD q.1)) ∧ RepL T G vs (kvs.map (·.2))) ∨ (∃ kvs : List (List Key × V), H p = some (.dT kvs) ∧ (t = true ∧ ks = kvs.map (fun q => .tup (q.1.map keyD))) ∧ RepL T G vs (kvs.map (·.2)))) := by
    rcases ry with r | ⟨p, rfl, _, o⟩
    · simp only [Rep] at r
      obtain ⟨p, rfl, ⟨kvs, h1, h2, _, h3⟩ | ⟨kvs, h1, h2, _, h3⟩⟩ := r
      · exact ⟨p, rfl, .inl ⟨kvs, s _ _ h1, h2, h3⟩⟩
      · exact ⟨p, rfl, .inr ⟨kvs, s _ _ h1, h2, h3⟩⟩
    · rcases o with ⟨kvs, h1, h2, _, h3⟩ | ⟨kvs, h1, h2, _, h3⟩
      · exact ⟨p, rfl, .inl ⟨kvs, h1, h2, h3⟩⟩
      · exact ⟨p, rfl, .inr ⟨kvs, h1, h2, h3⟩⟩
  obtain ⟨p, rfl, ⟨kvs, h1, ⟨rfl, rfl⟩, h3⟩ | ⟨kvs, h1, ⟨rfl, rfl⟩, h3⟩⟩ := hy
  · obtain ⟨k, rfl⟩ := kOk_f c
    have rx' : Rep T G (keyD k) v := by
      rcases rx with r | ⟨q, e, _, o⟩
      · exact r
      · cases k <;> exact o.elim
    obtain ⟨rfl, _⟩ := keyD_V rx'
    exact ⟨p, _, rfl, DGet.k h1, (dhas_some deq_key k kvs).symm, fun d hd => dget_enc deq_key k h3 hd⟩
  · obtain ⟨k, rfl⟩ := kOk_t c
    obtain ⟨q, ws, rfl, h4, h5⟩ := rb_tup0 rx
    obtain ⟨rfl, _⟩ := keysD_V h5
    exact ⟨p, _, rfl, DGet.t h1 (s _ _ h4), (dhas_some (enc := fun z : List Key => D.tup (z.map keyD)) deq_keys k kvs).symm, fun d hd => dget_enc (enc := fun z : List Key => D.tup (z.map keyD)) deq_keys k h3 hd⟩
theorem op_inDct (hu : X.A.units + 1 < cLine) : OpR X (compareOp .In) (fun x y H Q => ∃ a o, y = .ref a ∧ DGet H a x o ∧ Q (.bl o.isSome) H) := by
  intro pins s σ H x y v u Q I rx ry h
  obtain ⟨a, o, rfl, g, q⟩ := h
  cases ry
  exact d_in hu I g rx fun s' I' => ⟨.bl o.isSome, H, I', rfl, q⟩
theorem op_notInDct (hu : X.A.units + 1 < cLine) : OpR X (compareOp .NotIn) (fun x y H Q => ∃ a o, y = .ref a ∧ DGet H a x o ∧ Q (.bl (!o.isSome)) H) := by
  intro pins s σ H x y v u Q I rx ry h
  obtain ⟨a, o, rfl, g, q⟩ := h
  cases ry
  exact d_notIn hu I g rx fun s' I' => ⟨.bl (!o.isSome), H, I', rfl, q⟩
def rInS (n : Bool) (K : PySem.W.Frag) : R2 := fun x y H Q => rIn K n x y H Q ∨ (fun x y H Q => ∃ (c : Nat) (z : Str), x = .str ⟨#[c]⟩ ∧ y = .str z ∧ Q (.bl (if n then !decide (c ∈ z.cps.toList) else decide (c ∈ z.cps.toList))) H) x y H Q
def rInA (K : PySem.W.Frag) : R2 := fun x y H Q => (fun x y H Q => ∃ a o, y = .ref a ∧ DGet H a x o ∧ Q (.bl o.isSome) H) x y H Q ∨ (fun x y H Q => rInD K x y H Q ∨ rInS false K x y H Q) x y H Q
def rNotInA (K : PySem.W.Frag) : R2 := fun x y H Q => (fun x y H Q => ∃ a o, y = .ref a ∧ DGet H a x o ∧ Q (.bl (!o.isSome)) H) x y H Q ∨ (fun x y H Q => rNotInD K x y H Q ∨ rInS true K x y H Q) x y H Q
theorem op_inA (hu : X.A.units + 65 < cLine) : OpR X (compareOp .In) (rInA X.K) := (op_inDct (by omega)).or ((op_inD hu).or (op_in_seq.or op_in_sign))
theorem op_notInA (hu : X.A.units + 65 < cLine) : OpR X (compareOp .NotIn) (rNotInA X.K) := (op_notInDct (by omega)).or ((op_notInD hu).or (op_notIn_seq.or op_notIn_sign))
theorem flat_rep {G H : Hp} {x : D} {v : V} (h : flatD x = true) (r : RepB T G H x v) : flatV v = true := by
  cases x <;> simp only [flatD] at h <;> try cases h
  · obtain rfl := rb_non r; rfl
  · obtain rfl := rb_bl r; rfl
  · obtain rfl := rb_int r; rfl
  · obtain ⟨rfl, _⟩ := rb_str r; rfl
theorem flat_eqv {G H : Hp} {x y : D} {v u : V} (h : flatD x = true) (h2 : flatD y = true) (r : RepB T G H x v) (r2 : RepB T G H y u) : eqV u v = deq y x := by
  cases x <;> simp only [flatD] at h <;> (try cases h) <;> cases y <;> simp only [flatD] at h2 <;> (try cases h2) <;>
    (first | obtain rfl := rb_non r | obtain rfl := rb_bl r | obtain rfl := rb_int r | obtain ⟨rfl, _⟩ := rb_str r) <;>
    (first | obtain rfl := rb_non r2 | obtain rfl := rb_bl r2 | obtain rfl := rb_int r2 | obtain ⟨rfl, _⟩ := rb_str r2) <;>
    simp [eqV, deq, P, PyData.eqv]
theorem flat_all {G H : Hp} {x : D} {v : V} (h : flatD x = true) (r : RepB T G H x v) : ∀ {ys : List D} {vs : List V}, ys.all flatD = true → RepL T G ys vs → vs.all flatV = true ∧ inV v vs = din x ys
  | [], vs, _, k => by simp only [RepL] at k; subst k; exact ⟨rfl, rfl⟩
  | y :: ys, vs, h2, k => by
    simp only [RepL] at k
    obtain ⟨u, rr, rfl, k1, k2⟩ := k
    simp only [List.all_cons, Bool.and_eq_true] at h2
    obtain ⟨a, b⟩ := flat_all h r h2.2 k2
    refine ⟨by simp [a, flat_rep (H := H) h2.1 (.inl k1)], ?_⟩
    show (eqV u v || inV v rr) = (deq y x || din x ys)
    rw [flat_eqv h h2.1 r (.inl k1), b]
theorem sign_of {x : Str} {c : Nat} (h : x.cps.toList = [c]) : x = ⟨#[c]⟩ := by
  obtain ⟨a⟩ := x
  simp only at h
  congr
  exact Array.ext' (by simp [h])
theorem dp_lst (hK : T.K = X.K) {G H : Hp} {ys : List D} {v : V} {n : Nat} (s : Same G H) (h : ys.all (pl n) = true) (r : RepB T G H (.lst ys) v) : Dp X.K H v (.list (PL ys)) ∧ (PyData.list (PL ys)).canLay0 = true := by
  have := repB_dp (n := n + 1) (x := .lst ys) s (by simpa [pl] using h) r
  rw [hK] at this
  simpa only [P] using this
theorem any_eqv (x : D) : ∀ ys : List D, (PL ys).any (fun z => PyData.eqv z (P x)) = din x ys
  | [] => rfl
  | y :: ys => by simp only [PL, List.any_cons, din, any_eqv x ys, deq]
theorem od_in (hK : T.K = X.K) : OpD T X gIn (rInA X.K) where
  noE := gIn_noE
  run := by
    intro x y d v u G H Q l s rx ry h q
    unfold gIn at h
    split at h
    · rename_i ys
      obtain ⟨⟨c1, c2⟩, rfl⟩ := if_ok h
      obtain ⟨a1, b1⟩ := repB_dp s c1 rx
      obtain ⟨a2, b2⟩ := dp_lst hK s c2 ry
      rw [hK] at a1
      refine .inr (.inl ⟨_, _, a1, a2, shaped_pl (by decide) c1 b1, shaped_pl (n := 9) (x := .lst ys) (by decide) (by simpa [pl] using c2) (by simpa only [P] using b2), ?_⟩)
      rw [any_eqv]
      exact q _ G H (Good.refl s) rep_bl
    · rename_i ys _
      obtain ⟨⟨c1, c2⟩, rfl⟩ := if_ok h
      obtain ⟨p, vs, rfl, h1, r1⟩ := rb_tup s ry
      obtain ⟨a, b⟩ := flat_all c1 rx c2 r1
      rw [hK] at h1
      refine .inr (.inr (.inl ⟨p, vs, rfl, .inr (sqT_mono s h1), flat_rep c1 rx, a, ?_⟩))
      simp only [Bool.false_eq_true, if_false, b]
      exact q _ G H (Good.refl s) rep_bl
    · split at h
      · rename_i c hc
        obtain ⟨rfl, _⟩ := rb_str rx
        obtain ⟨rfl, _⟩ := rb_str ry
        obtain rfl := ok_inj h
        exact .inr (.inr (.inr ⟨c, _, by rw [sign_of hc], rfl, q _ G H (Good.refl s) rep_bl⟩))
      · cases h
    · obtain ⟨c, rfl⟩ := if_ok h
      obtain ⟨a, o, rfl, g, e, _⟩ := dct_get s c rx ry
      exact .inl ⟨a, o, rfl, g, by rw [e]; exact q _ G H (Good.refl s) rep_bl⟩
    · cases h
theorem od_notIn (hK : T.K = X.K) : OpD T X gNotIn (rNotInA X.K) where
  noE := fun x y z e => by
    unfold gNotIn at e
    cases q : gIn x y with
    | none => rw [q] at e; cases e
    | some m => cases m with
      | ok d => rw [q] at e; cases e
      | err w => exact gIn_noE x y w q
  run := by
    intro x y d v u G H Q l s rx ry h0 q
    obtain ⟨d', h, rfl⟩ : ∃ d', gIn x y = ok d' ∧ d = dnot d' := by
      unfold gNotIn at h0
      cases q : gIn x y with
      | none => rw [q] at h0; cases h0
      | some m => cases m with
        | ok d => rw [q] at h0; exact ⟨d, rfl, (ok_inj h0).symm⟩
        | err w => exact absurd q (gIn_noE x y w)
    unfold gIn at h
    split at h
    · rename_i ys
      obtain ⟨⟨c1, c2⟩, rfl⟩ := if_ok h
      obtain ⟨a1, b1⟩ := repB_dp s c1 rx
      obtain ⟨a2, b2⟩ := dp_lst hK s c2 ry
      rw [hK] at a1
      refine .inr (.inl ⟨_, _, a1, a2, shaped_pl (by decide) c1 b1, shaped_pl (n := 9) (x := .lst ys) (by decide) (by simpa [pl] using c2) (by simpa only [P] using b2), ?_⟩)
      rw [any_eqv]
      exact q _ G H (Good.refl s) rep_bl
    · rename_i ys _
      obtain ⟨⟨c1, c2⟩, rfl⟩ := if_ok h
      obtain ⟨p, vs, rfl, h1, r1⟩ := rb_tup s ry
      obtain ⟨a, b⟩ := flat_all c1 rx c2 r1
      rw [hK] at h1
      refine .inr (.inr (.inl ⟨p, vs, rfl, .inr (sqT_mono s h1), flat_rep c1 rx, a, ?_⟩))
      simp only [if_true, b]
      exact q _ G H (Good.refl s) rep_bl
    · split at h
      · rename_i c hc
        obtain ⟨rfl, _⟩ := rb_str rx
        obtain ⟨rfl, _⟩ := rb_str ry
        obtain rfl := ok_inj h
        exact .inr (.inr (.inr ⟨c, _, by rw [sign_of hc], rfl, q _ G H (Good.refl s) rep_bl⟩))
      · cases h
    · obtain ⟨c, rfl⟩ := if_ok h
      obtain ⟨a, o, rfl, g, e, _⟩ := dct_get s c rx ry
      exact .inl ⟨a, o, rfl, g, by rw [e]; exact q _ G H (Good.refl s) rep_bl⟩
    · cases h
end
end DL

namespace DL
open PySem PySem.Spec L2
open PyProof.Rows hiding St

theorem PW.imp {X : Cx} {e : Expr} {t t' : TT} (h : PW X e t) (k : ∀ σ H Q, HLen H → t' σ H Q → t σ H (fun v H' => HLen H' → Q v H')) : PW X e t' := by
  refine ⟨fun wh pins s σ H Q I q => ?_⟩
  refine thn (h.run wh pins s σ H _ I (k σ H Q (HLen.of I.hok) q)) fun u s' ⟨H', I', z⟩ => ⟨H', I', z (HLen.of I'.hok)⟩

/-! ### tests -/
def asB : D → R Bool
  | .bl b => ok b
  | _ => none
def tru : D → R Bool
  | .bl b => ok b
  | .non => ok false
  | .int i => ok (i != 0)
  | .str x => if x.length ≤ 16777216 then ok ((x.length : Int) != 0) else none
  | .lst xs => ok (!xs.isEmpty)
  | .tup xs => ok (!xs.isEmpty)
  | _ => none
/-- a value as a test -/
def tV (f : En → R D) : En → R Bool := fun e => bR (f e) asB
/-- a value's truth -/
def tU (f : En → R D) : En → R Bool := fun e => bR (f e) tru
def fAnd (fa fb : En → R Bool) : En → R Bool := fun e => bR (fa e) fun b => if b = true then fb e else ok false
def fOr (fa fb : En → R Bool) : En → R Bool := fun e => bR (fa e) fun b => if b = true then ok true else fb e
def fNot (fa : En → R Bool) : En → R Bool := fun e => bR (fa e) fun b => ok (!b)
def eAnd (fa fb : En → R D) : En → R D := fun e => bR (fa e) fun d => bR (asB d) fun b => if b = true then fb e else ok (.bl false)
def eOr (fa fb : En → R D) : En → R D := fun e => bR (fa e) fun d => bR (asB d) fun b => if b = true then ok (.bl true) else fb e
def eNot (fa : En → R D) : En → R D := fun e => bR (fa e) fun d => bR (tru d) fun b => ok (.bl (!b))
def eIf (fc : En → R Bool) (fa fb : En → R D) : En → R D := fun e => bR (fc e) fun b => if b = true then fa e else fb e
def e3 (g g' : D → D → R D) (fa fb fc : En → R D) : En → R D := fun e => bR (fa e) fun x => bR (fb e) fun y => bR (g x y) fun z => bR (asB z) fun b => if b = true then bR (fc e) fun w => g' y w else ok (.bl false)

section
variable {T : Ct} {W : WX} {X : Cx}
theorem asB_ok {d : D} {r : Rs Bool} (h : asB d = some r) : ∃ b, d = .bl b ∧ r = .ok b := by
  cases d <;> simp only [asB] at h <;> first | (cases h; done) | (cases h; exact ⟨_, rfl, rfl⟩)
theorem tru_noE {d : D} {r : Rs Bool} (h : tru d = some r) : ∃ b, r = .ok b := by
  cases d <;> simp only [tru] at h
  case str x =>
    split at h
    · exact ⟨_, (Option.some.inj h).symm⟩
    · cases h
  all_goals first | (cases h; done) | (cases h; exact ⟨_, rfl⟩)
theorem tru_V {G H : Hp} {d : D} {v : V} {b : Bool} (hK : T.K = X.K) (s : Same G H) (r : RepB T G H d v) (h : tru d = ok b) : TruV X.K v H b := by
  cases d with
  | bl c => obtain rfl := rb_bl r; simp only [tru] at h; cases h; rfl
  | non => obtain rfl := rb_non r; simp only [tru] at h; cases h; rfl
  | int i => obtain rfl := rb_int r; simp only [tru] at h; cases h; rfl
  | str x =>
    obtain ⟨rfl, _⟩ := rb_str r
    simp only [tru] at h
    split at h
    · rename_i c
      cases h
      exact ⟨le_line c, rfl⟩
    · cases h
  | lst xs =>
    obtain ⟨p, vs, rfl, h1, r1⟩ := rb_lst s r
    simp only [tru] at h; cases h
    refine .inl ⟨vs, .of h1, ?_⟩
    have := r1.length
    cases xs <;> cases vs <;> simp_all
  | tup xs =>
    obtain ⟨p, vs, rfl, h1, r1⟩ := rb_tup s r
    simp only [tru] at h; cases h
    rw [hK] at h1
    refine .inr (.inl ⟨vs, sqT_mono s h1, ?_⟩)
    have := r1.length
    cases xs <;> cases vs <;> simp_all
  | _ => simp only [tru] at h; cases h


theorem rep_bl_inv {G : Hp} {b : Bool} {v : V} (r : Rep T G (.bl b) v) : v = .bl b := by simpa only [Rep] using r
section
variable {a b c : Expr} {fa fb fc : En → R D} {g g' : D → D → R D} {r r' : R2} {ta tb : En → R Bool} {pos : Pos}
theorem bR_asB {β : Type} {m : R D} {k : Bool → R β} {rr : Rs β} (h : bR m (fun d => bR (asB d) k) = some rr) : (∃ b, m = ok (.bl b) ∧ k b = some rr) ∨ ∃ x, m = some (.err x) ∧ rr = .err x := by
  cases m with
  | none => cases h
  | some m => cases m with
    | err x => exact .inr ⟨x, rfl, by cases h; rfl⟩
    | ok d =>
      simp only [bR_ok] at h
      cases d <;> simp only [asB, bR_ok, bR_none] at h <;> first | (cases h; done) | exact .inl ⟨_, rfl, h⟩
theorem tV_inv {f : En → R D} {e : En} {rr : Rs Bool} (h : tV f e = some rr) : (∃ b, f e = ok (.bl b) ∧ rr = .ok b) ∨ ∃ x, f e = some (.err x) ∧ rr = .err x := by
  rcases bR_asB (k := fun b => ok b) (m := f e) (rr := rr) (by unfold tV at h; cases q : f e with
    | none => rw [q] at h; cases h
    | some m => rw [q] at h; cases m with
      | err x => exact h
      | ok d => cases d <;> simp_all [asB]) with ⟨b, h1, h2⟩ | h
  · exact .inl ⟨b, h1, (Option.some.inj h2).symm⟩
  · exact .inr h
/-- a comparison as a test -/
theorem dt_cmp {op : CmpOp} (hd : OpD T X g r) (ho : OpR X (compareOp op) r) (ha : PE X a (tB T W fa)) (hb : PE X b (tB T W fb)) (hm : behindInMarks op b = false) : PT X (.Compare a [op] [b] pos) (tT T W (tV (e2 g fa fb))) := by
  refine PT.imp (pt_cmpR ho ha hb hm) fun σ H Q l ⟨G0, H0, G, e, r, s, hf, hp⟩ => ?_
  rcases tV_inv hf with ⟨b, h1, rfl⟩ | ⟨x, h1, rfl⟩
  · exact op2core (kk := fun d => d = .bl b) hd s h1 rfl fun d v G' H' k g' rw => ⟨b, by subst k; exact rep_bl_inv rw, fun l' => hp G' H' g' l'⟩
  · exact op2core (kk := fun _ => False) hd s h1 hp fun d v G' H' k => k.elim
/-- a value's truth as a test -/
theorem dt_tru (hK : T.K = X.K) (ha : PE X a (tB T W fa)) (he : ∀ whole, isTrue a X.env whole = (do let v ← whole; standAt a.pos; holding [v] (truthy v)) := by intro _; rfl) : PT X a (tT T W (tU fa)) := by
  refine PT.imp (pt_truth ha he) fun σ H Q l ⟨G0, H0, G, e, r, s, hf, hp⟩ => ?_
  refine seqB s hf hp fun x v G1 H1 g1 l1 s1 rx hk => ?_
  obtain ⟨b, rfl⟩ := tru_noE hk
  exact ⟨b, tru_V hK s1.same rx hk, fun l' => hp G1 H1 g1 l'⟩
theorem dw_and1 (ha : PT X a (tT T W ta)) : PW X (.BoolOp .And [a] pos) (tT T W ta) := pw_and1 ha
theorem dw_or1 (ha : PT X a (tT T W ta)) : PW X (.BoolOp .Or [a] pos) (tT T W ta) := pw_or1 ha
theorem dw_and {rest : List Expr} (ha : PT X a (tT T W ta)) (hb : PW X (.BoolOp .And (b :: rest) pos) (tT T W tb)) : PW X (.BoolOp .And (a :: b :: rest) pos) (tT T W (fAnd ta tb)) := by
  refine PW.imp (pw_and ha hb) fun σ H Q l ⟨G0, H0, G, e, r, s, hf, hp⟩ => ?_
  refine seqT s hf hp fun x G1 H1 g1 l1 s1 hk => ?_
  cases x with
  | true =>
    rw [if_pos rfl] at hk ⊢
    exact ⟨G0, H0, G1, e, r, s1, hk, hp.ext g1 fun b k G' H' g l => fun _ => k G' H' (g1.trans g) l⟩
  | false =>
    rw [if_neg Bool.false_ne_true] at hk ⊢
    cases hk
    exact fun l' => hp G1 H1 g1 l'
theorem dw_or {rest : List Expr} (ha : PT X a (tT T W ta)) (hb : PW X (.BoolOp .Or (b :: rest) pos) (tT T W tb)) : PW X (.BoolOp .Or (a :: b :: rest) pos) (tT T W (fOr ta tb)) := by
  refine PW.imp (pw_or ha hb) fun σ H Q l ⟨G0, H0, G, e, r, s, hf, hp⟩ => ?_
  refine seqT s hf hp fun x G1 H1 g1 l1 s1 hk => ?_
  cases x with
  | false =>
    rw [if_neg Bool.false_ne_true] at hk ⊢
    exact ⟨G0, H0, G1, e, r, s1, hk, hp.ext g1 fun b k G' H' g l => fun _ => k G' H' (g1.trans g) l⟩
  | true =>
    rw [if_pos rfl] at hk ⊢
    cases hk
    exact fun l' => hp G1 H1 g1 l'
theorem dt_w {e : Expr} (h : PW X e (tT T W ta)) : PT X e (tT T W ta) := h.pt
theorem dt_not (ha : PT X a (tT T W ta)) : PT X (.UnaryOp .Not a pos) (tT T W (fNot ta)) := by
  refine PT.imp (pt_not ha) fun σ H Q l ⟨G0, H0, G, e, r, s, hf, hp⟩ => ?_
  refine seqT s hf hp fun x G1 H1 g1 l1 s1 hk => ?_
  cases hk
  exact fun l' => hp G1 H1 g1 l'
/-- a chain as a test, as a value -/
theorem chain_core (hd : OpD T X g r) (hd' : OpD T X g' r') {σ : St} {G0 H0 G H : Hp} {e : En} {rr : Rs D} {kk : D → Prop} {Q : VK} (s : StOk T G0 H0 G H σ e) (hf : e3 g g' fa fb fc e = some rr) (hp : PV T W G H σ kk rr)
    (hq : ∀ d v G' H', kk d → Good G H G' H' → Rep T G' d v → Q v H') : tChain r r' (tB T W fa) (tB T W fb) (tB T W fc) σ H Q := by
  refine seqB s hf hp fun x v G1 H1 g1 l1 s1 rx hk => ?_
  refine seqB (kk := fun _ => True) s1 hk (hp.ext g1 fun _ _ => trivial) fun y u G2 H2 g2 l2 s2 ry hk2 => ?_
  have g12 := g1.trans g2
  rcases bR_asB hk2 with ⟨b, h1, h2⟩ | ⟨x', h1, h2⟩
  · refine hd.run x y (.bl b) v u G2 H2 _ l2 s2.same (rx.good g2) ry h1 fun z G3 H3 g3 rz => ⟨b, rep_bl_inv rz, ?_⟩
    cases b with
    | false =>
      rw [if_neg Bool.false_ne_true] at h2 ⊢
      cases h2
      exact hq (.bl false) _ G3 H3 hp (g12.trans g3) rep_bl
    | true =>
      rw [if_pos rfl] at h2 ⊢
      refine seqB (kk := fun _ => True) (s2.ext g3) h2 (hp.ext (g12.trans g3) fun _ _ => trivial) fun w' u' G4 H4 g4 l4 s4 rw' hk4 => ?_
      cases rr with
      | err z => exact absurd hk4 (hd'.noE _ _ z)
      | ok d => exact hd'.run _ _ d _ _ G4 H4 _ l4 s4.same ((ry.good g3).good g4) rw' hk4 fun z' G' H' g' rz' => hq d z' G' H' hp (((g12.trans g3).trans g4).trans g') rz'
  · exact absurd h1 (hd.noE _ _ _)
theorem dt_chain {op op' : CmpOp} (hd : OpD T X g r) (ho : OpR X (compareOp op) r) (hd' : OpD T X g' r') (ho' : OpR X (compareOp op') r') (ha : PE X a (tB T W fa)) (hb : PE X b (tB T W fb)) (hc : PE X c (tB T W fc))
    (hm : lastMarks [op, op'] [b, c] = false := by with_unfolding_all rfl) : PT X (.Compare a [op, op'] [b, c] pos) (tT T W (tV (e3 g g' fa fb fc))) := by
  refine PT.imp (pt_chain ho ho' ha hb hc hm) fun σ H Q l ⟨G0, H0, G, e, r, s, hf, hp⟩ => ?_
  rcases tV_inv hf with ⟨b, h1, rfl⟩ | ⟨x, h1, rfl⟩
  · exact chain_core (kk := fun d => d = .bl b) hd hd' s h1 rfl fun d v G' H' k g' rw => ⟨b, by subst k; exact rep_bl_inv rw, fun l' => hp G' H' g' l'⟩
  · exact chain_core (kk := fun _ => False) hd hd' s h1 hp fun d v G' H' k => k.elim
theorem de_chain {op op' : CmpOp} (hd : OpD T X g r) (ho : OpR X (compareOp op) r) (hd' : OpD T X g' r') (ho' : OpR X (compareOp op') r') (ha : PE X a (tB T W fa)) (hb : PE X b (tB T W fb)) (hc : PE X c (tB T W fc))
    (hm : lastMarks [op, op'] [b, c] = false := by with_unfolding_all rfl) : PE X (.Compare a [op, op'] [b, c] pos) (tE T W (e3 g g' fa fb fc)) := by
  refine PE.imp (pe_chain ho ho' ha hb hc hm) fun σ H Q l ⟨G0, H0, G, e, r, s, hf, hp⟩ => ?_
  exact chain_core hd hd' s hf hp fun d v G' H' k g' rw => fun l' => k v G' H' g' l' rw
/-! ### and, or, not, if as values -/
theorem de_one {op} (h : PE X a (tE T W fa)) : PE X (.BoolOp op [a] pos) (tE T W fa) := pe_one h
theorem de_and {rest : List Expr} (ha : PE X a (tE T W fa)) (hb : PE X (.BoolOp .And (b :: rest) pos) (tE T W fb)) : PE X (.BoolOp .And (a :: b :: rest) pos) (tE T W (eAnd fa fb)) := by
  refine PE.imp (pe_and ha hb) fun σ H Q l ⟨G0, H0, G, e, r, s, hf, hp⟩ => ?_
  refine seqE s hf hp fun x v G1 H1 g1 l1 s1 rx hk => ?_
  cases x with
  | bl c =>
    refine ⟨c, rep_bl_inv rx, ?_⟩
    simp only [asB, bR_ok] at hk
    cases c with
    | true =>
      rw [if_pos rfl] at hk ⊢
      exact ⟨G0, H0, G1, e, r, s1, hk, hp.ext g1 fun b k v G' H' g l rp => fun _ => k v G' H' (g1.trans g) l rp⟩
    | false =>
      rw [if_neg Bool.false_ne_true] at hk ⊢
      cases hk
      exact fun l' => hp _ G1 H1 g1 l' rep_bl
  | _ => simp only [asB, bR_none] at hk; cases hk
theorem de_or {rest : List Expr} (ha : PE X a (tE T W fa)) (hb : PE X (.BoolOp .Or (b :: rest) pos) (tE T W fb)) : PE X (.BoolOp .Or (a :: b :: rest) pos) (tE T W (eOr fa fb)) := by
  refine PE.imp (pe_or ha hb) fun σ H Q l ⟨G0, H0, G, e, r, s, hf, hp⟩ => ?_
  refine seqE s hf hp fun x v G1 H1 g1 l1 s1 rx hk => ?_
  cases x with
  | bl c =>
    refine ⟨c, rep_bl_inv rx, ?_⟩
    simp only [asB, bR_ok] at hk
    cases c with
    | false =>
      rw [if_neg Bool.false_ne_true] at hk ⊢
      exact ⟨G0, H0, G1, e, r, s1, hk, hp.ext g1 fun b k v G' H' g l rp => fun _ => k v G' H' (g1.trans g) l rp⟩
    | true =>
      rw [if_pos rfl] at hk ⊢
      cases hk
      exact fun l' => hp _ G1 H1 g1 l' rep_bl
  | _ => simp only [asB, bR_none] at hk; cases hk
theorem de_not (hK : T.K = X.K) (ha : PE X a (tB T W fa)) : PE X (.UnaryOp .Not a pos) (tE T W (eNot fa)) := by
  refine PE.imp (pe_notT ha) fun σ H Q l ⟨G0, H0, G, e, r, s, hf, hp⟩ => ?_
  refine seqB s hf hp fun x v G1 H1 g1 l1 s1 rx hk => ?_
  cases q : tru x with
  | none => rw [q] at hk; cases hk
  | some m =>
    obtain ⟨b, rfl⟩ := tru_noE q
    rw [q] at hk
    cases hk
    exact ⟨b, tru_V hK s1.same rx q, fun l' => hp _ G1 H1 g1 l' rep_bl⟩
theorem de_if {ta : En → R Bool} (hc : PT X c (tT T W ta)) (ha : PE X a (tE T W fa)) (hb : PE X b (tE T W fb)) : PE X (.IfExp c a b pos) (tE T W (eIf ta fa fb)) := by
  refine PE.imp (pe_ifExp hc ha hb) fun σ H Q l ⟨G0, H0, G, e, r, s, hf, hp⟩ => ?_
  refine seqT s hf hp fun x G1 H1 g1 l1 s1 hk => ?_
  cases x with
  | true =>
    rw [if_pos rfl] at hk ⊢
    exact ⟨G0, H0, G1, e, r, s1, hk, hp.ext g1 fun b k v G' H' g l rp => fun _ => k v G' H' (g1.trans g) l rp⟩
  | false =>
    rw [if_neg Bool.false_ne_true] at hk ⊢
    exact ⟨G0, H0, G1, e, r, s1, hk, hp.ext g1 fun b k v G' H' g l rp => fun _ => k v G' H' (g1.trans g) l rp⟩
/-- is None -/
def eIsN (fa : En → R D) : En → R D := fun e => bR (fa e) fun d => ok (.bl (isNon d))
def eNotN (fa : En → R D) : En → R D := fun e => bR (fa e) fun d => ok (.bl (!isNon d))
theorem isNon_V {G H : Hp} {d : D} {v : V} (s : Same G H) (r : RepB T G H d v) : decide (v = .non) = isNon d := by
  cases d with
  | non => obtain rfl := rb_non r; rfl
  | bl c => obtain rfl := rb_bl r; rfl
  | int c => obtain rfl := rb_int r; rfl
  | str c => obtain ⟨rfl, _⟩ := rb_str r; rfl
  | lst c => obtain ⟨p, vs, rfl, _⟩ := rb_lst s r; rfl
  | tup c => obtain ⟨p, vs, rfl, _⟩ := rb_tup s r; rfl
  | scr c => obtain ⟨p, rfl, _⟩ := rb_scr r; rfl
  | dct _ _ _ =>
    rcases r with r | ⟨p, rfl, _⟩
    · simp only [Rep] at r
      obtain ⟨p, rfl, _⟩ := r; rfl
    · rfl
  | ins _ _ _ =>
    rcases r with r | ⟨p, rfl, _⟩
    · simp only [Rep] at r
      obtain ⟨p, dx, fs, rfl, _⟩ := r; rfl
    · rfl
theorem de_isN {j pos'} (ha : PE X a (tB T W fa)) : PE X (.Compare a [.Is] [.Constant .none j pos'] pos) (tE T W (eIsN fa)) := by
  refine PE.imp (pe_cmp (pc_isN ha)) fun σ H Q l ⟨G0, H0, G, e, r, s, hf, hp⟩ => ?_
  refine seqB s hf hp fun x v G1 H1 g1 l1 s1 rx hk => ?_
  cases hk
  rw [isNon_V s1.same rx]
  exact fun l' => hp _ G1 H1 g1 l' rep_bl
theorem de_notN {j pos'} (ha : PE X a (tB T W fa)) : PE X (.Compare a [.IsNot] [.Constant .none j pos'] pos) (tE T W (eNotN fa)) := by
  refine PE.imp (pe_cmp (pc_notN ha)) fun σ H Q l ⟨G0, H0, G, e, r, s, hf, hp⟩ => ?_
  refine seqB s hf hp fun x v G1 H1 g1 l1 s1 rx hk => ?_
  cases hk
  rw [isNon_V s1.same rx]
  exact fun l' => hp _ G1 H1 g1 l' rep_bl
theorem dt_isN {j pos'} (ha : PE X a (tB T W fa)) : PT X (.Compare a [.Is] [.Constant .none j pos'] pos) (tT T W (tV (eIsN fa))) := by
  refine PT.imp (pt_cmp (pc_isN ha)) fun σ H Q l ⟨G0, H0, G, e, r, s, hf, hp⟩ => ?_
  rcases tV_inv hf with ⟨b, h1, rfl⟩ | ⟨x, h1, rfl⟩
  · refine seqB (kk := fun _ => True) (r := Rs.ok (D.bl b)) s (show bR (fa e) (fun d => ok (.bl (isNon d))) = _ from h1) trivial fun x v G1 H1 g1 l1 s1 rx hk => ?_
    cases hk
    exact ⟨_, rfl, by rw [isNon_V s1.same rx]; exact fun l' => hp G1 H1 g1 l'⟩
  · exact seqB (kk := fun _ => True) (r := Rs.err x) s (show bR (fa e) (fun d => ok (D.bl (isNon d))) = _ from h1) (show PV T W G H σ _ (.err x) from hp) fun x v G1 H1 g1 l1 s1 rx hk => by cases hk
theorem dt_notN {j pos'} (ha : PE X a (tB T W fa)) : PT X (.Compare a [.IsNot] [.Constant .none j pos'] pos) (tT T W (tV (eNotN fa))) := by
  refine PT.imp (pt_cmp (pc_notN ha)) fun σ H Q l ⟨G0, H0, G, e, r, s, hf, hp⟩ => ?_
  rcases tV_inv hf with ⟨b, h1, rfl⟩ | ⟨x, h1, rfl⟩
  · refine seqB (kk := fun _ => True) (r := Rs.ok (D.bl b)) s (show bR (fa e) (fun d => ok (.bl (!isNon d))) = _ from h1) trivial fun x v G1 H1 g1 l1 s1 rx hk => ?_
    cases hk
    exact ⟨_, rfl, by rw [isNon_V s1.same rx]; exact fun l' => hp G1 H1 g1 l'⟩
  · exact seqB (kk := fun _ => True) (r := Rs.err x) s (show bR (fa e) (fun d => ok (D.bl (!isNon d))) = _ from h1) (show PV T W G H σ _ (.err x) from hp) fun x v G1 H1 g1 l1 s1 rx hk => by cases hk
end
end
end DL

namespace DL
open PySem PySem.Spec L2
open PyProof.Rows hiding St

/-! ### a place -/
def gIx : D → D → R D
  | .lst xs, .int i => (atI xs i).elim none ok
  | .tup xs, .int i => (atI xs i).elim none ok
  | .str z, .int i => if z.length ≤ 16777216 then (atI z.cps.toList i).elim none (fun c => ok (.str ⟨#[c]⟩)) else none
  | .scr ns, .int i => (atI ns i).elim none (fun n => ok (.int n))
  | .dct t ks vs, x => if kOk t x = true then (dget ks vs x).elim none ok else none
  | _, _ => none
def rIxD : R2 := fun x y H Q => ∃ a v, x = .ref a ∧ DGet H a y (some v) ∧ Q v H
def rIxB (K : PySem.W.Frag) : R2 := fun x y H Q => rIxL K x y H Q ∨ (fun x y H Q => rIxT K x y H Q ∨ rIxS x y H Q) x y H Q
def rIxA (K : PySem.W.Frag) : R2 := fun x y H Q => rIxD x y H Q ∨ rIxB K x y H Q
section
variable {T : Ct} {W : WX} {X : Cx}
theorem ix_dct (hu : X.A.units + 1 < cLine) : IxR X rIxD := by
  intro value slice pins s σ H x y v u Q I rx ry h hs
  obtain ⟨a, w, rfl, g, q⟩ := h
  cases rx
  have hT := dict_typeIs I g
  unfold subscriptTail
  refine wpAny_bind ?_
  rw [getitemInPython_of_ne hT.not_modules]
  refine wpAny_bind (wpAny_specialOf hT PySem.F.slot_dict_getitem.lookup ?_)
  have fin : wpAny (model X.prog X.w) X.A (subscripted slice false (.ref a) u) (fun r s₃ => wpAny (model X.prog X.w) X.A (letTemporaryGo value (.ref a) r >>= fun _ => pure r) (EP X pins σ Q) X.xe s₃) X.xe s := by
    rw [hs]
    exact wpAny_operating (d_getItem hu I g ry fun w' s' I' r' => wpAny_bind (wpAny_letTemporaryGo (wpAny_pure ⟨_, _, I', r', q⟩)))
  first
    | exact wpAny_pure (wpAny_bind fin)
    | exact wpAny_bind (wpAny_pure (wpAny_bind fin))
    | exact wpAny_bind fin
theorem ix_A (hu : X.A.units + 1 < cLine) : IxR X (rIxA X.K) := (ix_dct hu).or (ix_list.or (ix_tup.or ix_str))
theorem elim_noE {α : Type} {o : Option α} {f : α → D} : (o.elim none (fun a => ok (f a)) : R D) = none ∨ ∃ d, o.elim none (fun a => ok (f a)) = ok d := by
  cases o with
  | none => exact .inl rfl
  | some a => exact .inr ⟨_, rfl⟩
theorem elim_ok {α : Type} {o : Option α} {f : α → D} {d : D} (h : (o.elim none (fun a => ok (f a)) : R D) = ok d) : ∃ a, o = some a ∧ f a = d := by
  cases o with
  | none => cases h
  | some a => exact ⟨a, rfl, ok_inj h⟩
theorem atI_rep {G : Hp} {ds : List D} {vs : List V} {i : Int} {d : D} (r : RepL T G ds vs) (h : atI ds i = some d) : ∃ v, atI vs i = some v ∧ Rep T G d v := by
  unfold atI at h ⊢
  rw [r.length] at h
  cases q : ixN vs.length i with
  | none => rw [q] at h; cases h
  | some j =>
    rw [q] at h
    obtain ⟨v, a, b⟩ := r.get (show ds[j]? = some d from h)
    exact ⟨v, a, b⟩
theorem strOk_one {z : Str} {i : Int} {c : Nat} (h : PyData.strOk z = true) (k : atI z.cps.toList i = some c) : PyData.strOk ⟨#[c]⟩ = true := by
  obtain ⟨j, _, h2, _⟩ := atI_get k
  have hm : c ∈ z.cps.toList := List.mem_of_getElem? h2
  have h' : z.cps.all (· < 0x110000) = true := h
  rw [← Array.all_toList, List.all_eq_true] at h'
  have := h' c hm
  simpa [PyData.strOk] using this
theorem atI_map {α β : Type} (f : α → β) {xs : List α} {i : Int} : atI (xs.map f) i = (atI xs i).map f := by
  unfold atI
  rw [List.length_map]
  cases ixN xs.length i with
  | none => rfl
  | some j => simp
theorem od_ix (hK : T.K = X.K) : OpD T X gIx (rIxA X.K) where
  noE := noE_of fun x y => by
    unfold gIx
    split
    · exact elim_noE (f := fun d => d)
    · exact elim_noE (f := fun d => d)
    · split
      · exact elim_noE
      · exact .inl rfl
    · exact elim_noE
    · split
      · exact elim_noE (f := fun d => d)
      · exact .inl rfl
    · exact .inl rfl
  run := by
    intro x y d v u G H Q l s rx ry h q
    unfold gIx at h
    split at h
    · obtain ⟨a, h1, rfl⟩ := elim_ok (f := fun d => d) h
      obtain rfl := rb_int ry
      obtain ⟨p, vs, rfl, h2, r2⟩ := rb_lst s rx
      obtain ⟨w, h3, h4⟩ := atI_rep r2 h1
      exact .inr (.inl ⟨p, vs, _, w, rfl, rfl, .of h2, h3, q _ G H (Good.refl s) h4⟩)
    · obtain ⟨a, h1, rfl⟩ := elim_ok (f := fun d => d) h
      obtain rfl := rb_int ry
      obtain ⟨p, vs, rfl, h2, r2⟩ := rb_tup s rx
      obtain ⟨w, h3, h4⟩ := atI_rep r2 h1
      rw [hK] at h2
      exact .inr (.inr (.inl ⟨p, vs, _, w, rfl, rfl, sqT_mono s h2, h3, q _ G H (Good.refl s) h4⟩))
    · split at h
      · rename_i c
        obtain ⟨a, h1, rfl⟩ := elim_ok h
        obtain rfl := rb_int ry
        obtain ⟨rfl, h2⟩ := rb_str rx
        exact .inr (.inr (.inr ⟨_, _, a, rfl, rfl, le_line c, h1, q _ G H (Good.refl s) (rep_str (strOk_one h2 h1))⟩))
      · cases h
    · obtain ⟨n, h1, rfl⟩ := elim_ok h
      obtain rfl := rb_int ry
      obtain ⟨p, rfl, h2⟩ := rb_scr rx
      rw [hK] at h2
      exact .inr (.inl ⟨p, _, _, .int n, rfl, rfl, s.seq h2, by rw [atI_map, h1]; rfl, q _ G H (Good.refl s) rep_int⟩)
    · split at h
      · rename_i c
        obtain ⟨d', h1, rfl⟩ := elim_ok (f := fun d => d) h
        obtain ⟨a, o, rfl, g, e, hg⟩ := dct_get s c ry rx
        obtain ⟨w, rfl, h4⟩ := hg _ h1
        exact .inl ⟨a, w, rfl, g, q _ G H (Good.refl s) h4⟩
      · cases h
    · cases h
variable {a b lo hi : Expr} {fa fb : En → R D} {pos p2 : Pos}
theorem de_ix (hK : T.K = X.K) (hu : X.A.units + 64 < cLine) (ha : PE X a (tB T W fa)) (hb : PE X b (tB T W fb)) (hs : PlainIx b := by exact fun _ _ => rfl) : PE X (.Subscript a b pos) (tE T W (e2 gIx fa fb)) :=
  op2E (od_ix hK) (pe_ix (ix_A (by omega)) ha hb hs) rfl

/-! ### slices -/
def cutL {α : Type} (xs : List α) (lo hi : Option Int) : List α := (xs.drop (HT.sIx xs.length 0 lo)).take (HT.sIx xs.length xs.length hi - HT.sIx xs.length 0 lo)
theorem cutL_rep {G : Hp} {ds : List D} {vs : List V} (r : RepL T G ds vs) (lo hi : Option Int) : RepL T G (cutL ds lo hi) (cutV vs lo hi) := by
  unfold cutL cutV
  rw [r.length]
  exact (r.drop _).take _
abbrev FO := En → R (Option Int)
def oN : FO := fun _ => ok none
def oS (f : En → R D) : FO := fun e => bR (f e) fun d => match d with
  | .int i => ok (some i)
  | _ => none
def tO (T : Ct) (W : WX) (f : FO) : TO := fun σ H Q => ∃ G0 H0 G e r, StOk T G0 H0 G H σ e ∧ f e = some r ∧ PV T W G H σ (fun o => ∀ G' H', Good G H G' H' → HLen H' → Q o H') r
theorem PO.imp {e : Option Expr} {t t' : TO} (h : PO X e t) (k : ∀ σ H Q, HLen H → t' σ H Q → t σ H (fun v H' => HLen H' → Q v H')) : PO X e t' := by
  refine ⟨fun pins s σ H Q I q => ?_⟩
  refine thn (h.run pins s σ H _ I (k σ H Q (HLen.of I.hok) q)) fun u s' ⟨o, H', I', r, z⟩ => ⟨o, H', I', r, z (HLen.of I'.hok)⟩
theorem do_none : PO X none (tO T W oN) := by
  refine PO.imp po_none fun σ H Q l ⟨G0, H0, G, e, r, s, hf, hp⟩ => ?_
  cases hf
  exact fun l' => hp G H (Good.refl s.same) l'
theorem do_some (h : PE X a (tE T W fa)) : PO X (some a) (tO T W (oS fa)) := by
  refine PO.imp (po_some h) fun σ H Q l ⟨G0, H0, G, e, r, s, hf, hp⟩ => ?_
  refine seqE s hf hp fun x v G1 H1 g1 l1 s1 rx hk => ?_
  cases x with
  | int i =>
    cases hk
    obtain rfl : v = .int i := by simpa only [Rep] using rx
    exact ⟨i, rfl, fun l' => hp G1 H1 g1 l'⟩
  | _ => cases hk
theorem seqO {β : Type} {fo : FO} {k : Option Int → R β} {r : Rs β} {G0 H0 G H : Hp} {σ : St} {e : En} {kk : β → Prop} {NX : Option Int → Hp → Prop} (s : StOk T G0 H0 G H σ e) (h : bR (fo e) k = some r) (hp : PV T W G H σ kk r)
    (next : ∀ x G1 H1, Good G H G1 H1 → HLen H1 → StOk T G0 H0 G1 H1 σ e → k x = some r → NX x H1) : tO T W fo σ H NX := by
  cases q : fo e with
  | none => rw [q] at h; cases h
  | some m =>
    rw [q] at h
    cases m with
    | ok a => exact ⟨G0, H0, G, e, _, s, q, fun G' H' g l => next a G' H' g l (s.ext g) h⟩
    | err x =>
      cases h
      exact ⟨G0, H0, G, e, _, s, q, hp⟩
def gSl : D → Option Int → Option Int → R D
  | .lst xs, lo, hi => ok (.lst (cutL xs lo hi))
  | .tup xs, lo, hi => ok (.tup (cutL xs lo hi))
  | .str z, lo, hi => if z.length ≤ 16777216 then ok (.str (cutS z lo hi)) else none
  | _, _, _ => none
def gSlF : D → Option Int → Option Int → R D
  | .lst xs, lo, hi => ok (.lst (cutL xs lo hi))
  | _, _, _ => none
def eSl (g : D → Option Int → Option Int → R D) (fa : En → R D) (fl fh : FO) : En → R D := fun e => bR (fa e) fun x => bR (fl e) fun l => bR (fh e) fun h => g x l h
theorem strOk_cut {z : Str} {lo hi : Option Int} (h : PyData.strOk z = true) : PyData.strOk (cutS z lo hi) = true := by
  have h' : z.cps.all (· < 0x110000) = true := h
  rw [← Array.all_toList, List.all_eq_true] at h'
  show (((z.cps.toList.drop _).take _).toArray).all _ = true
  rw [List.all_toArray, List.all_eq_true]
  exact fun c hc => h' c (List.mem_of_mem_drop (List.mem_of_mem_take hc))
def rSlAll (K : PySem.W.Frag) : V → Option Int → Option Int → Hp → VK → Prop := fun x lo hi H Q => rSlL K x lo hi H Q ∨ (fun x lo hi H Q => rSlA K x lo hi H Q ∨ rSlS x lo hi H Q) x lo hi H Q
theorem sl_all : SlR X (rSlAll X.K) := sl_list.or (sl_tupA.or sl_str)
theorem sl_whole {ds : List D} {lo hi : Option Int} (h : HT.sIx ds.length 0 lo = 0 ∧ HT.sIx ds.length ds.length hi = ds.length) : cutL ds lo hi = ds := by
  unfold cutL
  rw [h.1, h.2]
  simp
theorem gSl_run (hK : T.K = X.K) {x d : D} {lo hi : Option Int} {v : V} {G H : Hp} {Q : VK} (s : Same G H) (rx : RepB T G H x v) (h : gSl x lo hi = ok d) (q : ∀ w G' H', Good G H G' H' → Rep T G' d w → Q w H') : rSlAll X.K v lo hi H Q := by
  unfold gSl at h
  split at h
  · obtain rfl := ok_inj h
    obtain ⟨p, vs, rfl, h2, r2⟩ := rb_lst s rx
    exact .inl ⟨p, vs, rfl, .of h2, fun p hp => let ⟨g, r⟩ := new_lst s hp (cutL_rep r2 _ _); q _ _ _ g r⟩
  · obtain rfl := ok_inj h
    have rt := rb_rep_tup rx
    obtain ⟨p, vs, rfl, h2, r2⟩ := rb_tup s rx
    rw [hK] at h2
    refine .inr (.inl ⟨p, vs, rfl, sqT_mono s h2, fun hw => ?_, fun _ p hp => ?_⟩)
    · rw [← r2.length] at hw
      refine q _ G H (Good.refl s) ?_
      rw [sl_whole hw]
      exact rt
    · exact let ⟨g, r⟩ := new_tup s hp (cutL_rep r2 _ _); q _ _ _ g r
  · obtain ⟨c, rfl⟩ := if_ok h
    obtain ⟨rfl, h2⟩ := rb_str rx
    exact .inr (.inr ⟨_, rfl, le_line c, q _ G H (Good.refl s) (rep_str (strOk_cut h2))⟩)
  · cases h
theorem gSl_noE : ∀ x lo hi z, gSl x lo hi ≠ some (.err z) := fun x lo hi z e => by
  unfold gSl at e
  split at e <;> first | (cases e; done) | (split at e <;> cases e)
theorem de_slice {lo hi : Option Expr} {fl fh : FO} (hK : T.K = X.K) (ha : PE X a (tB T W fa)) (hl : PO X lo (tO T W fl)) (hh : PO X hi (tO T W fh)) : PE X (.Subscript a (.Slice lo hi none p2) pos) (tE T W (eSl gSl fa fl fh)) := by
  refine PE.imp (pe_slice sl_all ha hl hh) fun σ H Q l ⟨G0, H0, G, e, r, s, hf, hp⟩ => ?_
  refine seqB s hf hp fun x v G1 H1 g1 l1 s1 rx hk => ?_
  refine seqO (kk := fun _ => True) s1 hk (hp.ext g1 fun _ _ => trivial) fun y G2 H2 g2 l2 s2 hk2 => ?_
  refine seqO (kk := fun _ => True) s2 hk2 (hp.ext (g1.trans g2) fun _ _ => trivial) fun z G3 H3 g3 l3 s3 hk3 => ?_
  cases r with
  | err z => exact absurd hk3 (gSl_noE _ _ _ z)
  | ok d => exact gSl_run hK s3.same ((rx.good g2).good g3) hk3 fun w G' H' g' rw => fun l' => hp w G' H' (((g1.trans g2).trans g3).trans g') l' rw
theorem df_slice {lo hi : Option Expr} {fl fh : FO} (ha : PE X a (tB T W fa)) (hl : PO X lo (tO T W fl)) (hh : PO X hi (tO T W fh)) : PE X (.Subscript a (.Slice lo hi none p2) pos) (tF T W (eSl gSlF fa fl fh)) := by
  refine PE.imp (pe_slice sl_list ha hl hh) fun σ H Q l ⟨G0, H0, G, e, r, s, hf, hp⟩ => ?_
  refine seqB s hf hp fun x v G1 H1 g1 l1 s1 rx hk => ?_
  refine seqO (kk := fun _ => True) s1 hk (hp.ext g1 fun _ _ => trivial) fun y G2 H2 g2 l2 s2 hk2 => ?_
  refine seqO (kk := fun _ => True) s2 hk2 (hp.ext (g1.trans g2) fun _ _ => trivial) fun z G3 H3 g3 l3 s3 hk3 => ?_
  unfold gSlF at hk3
  split at hk3
  · cases hk3
    obtain ⟨p, vs, rfl, h2, r2⟩ := rb_lst s3.same ((rx.good g2).good g3)
    have g13 := (g1.trans g2).trans g3
    exact ⟨p, vs, rfl, .of h2, fun p hq => let ⟨g, a, b, c⟩ := fresh_lst s3.same hq (cutL_rep r2 _ _); fun l' => hp p _ _ (g13.trans g) l' (g13.hh.free hq) a b fun dx fs C z => g13.hh.free (c dx fs C z)⟩
  · cases hk3
/-- xs[::-1] -/
def gRev : D → R D
  | .lst xs => ok (.lst xs.reverse)
  | _ => none
def e1 (g : D → R D) (fa : En → R D) : En → R D := fun e => bR (fa e) g
theorem df_rev {k : Nat} {p1 p2 p3 pos : Pos} (ha : PE X a (tB T W fa)) : PE X (.Subscript a (.Slice none none (some (.UnaryOp .USub (.Constant (.int 1) k p1) p2)) p3) pos) (tF T W (e1 gRev fa)) := by
  refine PE.imp (pe_revL ha) fun σ H Q l ⟨G0, H0, G, e, r, s, hf, hp⟩ => ?_
  refine seqB s hf hp fun x v G1 H1 g1 l1 s1 rx hk => ?_
  unfold gRev at hk
  split at hk
  · cases hk
    obtain ⟨p, vs, rfl, h2, r2⟩ := rb_lst s1.same rx
    exact ⟨p, vs, rfl, .of h2, fun p hq => let ⟨g, a, b, c⟩ := fresh_lst s1.same hq r2.reverse; fun l' => hp p _ _ (g1.trans g) l' (g1.hh.free hq) a b fun dx fs C z => g1.hh.free (c dx fs C z)⟩
  · cases hk

/-! ### arguments, displays -/
def aN : En → R (List D) := fun _ => ok []
def aC (f : En → R D) (r : En → R (List D)) : En → R (List D) := fun e => bR (f e) fun d => bR (r e) fun ds => ok (d :: ds)
theorem da_nil : PA X [] (tAs T W aN) := by
  refine PA.imp pa_nil fun σ H Q l ⟨G0, H0, G, e, r, s, hf, hp⟩ => ?_
  cases hf
  exact fun l' => hp [] G H (Good.refl s.same) l' .nil
theorem da_cons {es : List Expr} {f : En → R D} {fr : En → R (List D)} (ha : PE X a (tE T W f)) (hr : PA X es (tAs T W fr)) (hs : starEach (a :: es) X.env = (false, eval a X.env) :: starEach es X.env := by rfl) : PA X (a :: es) (tAs T W (aC f fr)) := by
  refine PA.imp (pa_cons ha hr hs) fun σ H Q l ⟨G0, H0, G, e, r, s, hf, hp⟩ => ?_
  refine seqE s hf hp fun x v G1 H1 g1 l1 s1 rx hk => ?_
  refine seqA (kk := fun _ => True) s1 hk (hp.ext g1 fun _ _ => trivial) fun y vs G2 H2 g2 l2 s2 ry hk2 => ?_
  cases hk2
  exact fun l' => hp _ G2 H2 (g1.trans g2) l' (.cons (rx.mono g2.gg) ry)
def eTup (f : En → R (List D)) : En → R D := fun e => bR (f e) fun ds => if ds.length ≤ 1000 then ok (.tup ds) else none
def eLst (f : En → R (List D)) : En → R D := fun e => bR (f e) fun ds => if ds.length ≤ 1000 then ok (.lst ds) else none
theorem if_okB {β : Type} {c : Prop} [Decidable c] {d : β} {r : Rs β} (h : (if c then ok d else none) = some r) : c ∧ r = .ok d := by
  split at h
  · rename_i hc
    exact ⟨hc, (Option.some.inj h).symm⟩
  · cases h
theorem de_tup {es : List Expr} {x1} {fs : En → R (List D)} (h : PA X es (tAs T W fs)) : PE X (.Tuple es x1 pos) (tE T W (eTup fs)) := by
  refine PE.imp (pe_tup h) fun σ H Q l ⟨G0, H0, G, e, r, s, hf, hp⟩ => ?_
  refine seqA s hf hp fun x vs G1 H1 g1 l1 s1 rx hk => ?_
  obtain ⟨c, rfl⟩ := if_okB hk
  rw [rx.length] at c
  exact ⟨le_line (by omega), fun p hq => let ⟨g, r⟩ := new_tup s1.same hq rx; fun l' => hp _ _ _ (g1.trans g) l' r⟩
theorem df_lst {es : List Expr} {fs : En → R (List D)} (h : PA X es (tAs T W fs)) : PE X (.List es pos) (tF T W (eLst fs)) := by
  refine PE.imp (pe_lst h) fun σ H Q l ⟨G0, H0, G, e, r, s, hf, hp⟩ => ?_
  refine seqA s hf hp fun x vs G1 H1 g1 l1 s1 rx hk => ?_
  obtain ⟨c, rfl⟩ := if_okB hk
  rw [rx.length] at c
  exact ⟨le_line (by omega), fun p hq => let ⟨g, a, b, c⟩ := fresh_lst s1.same hq rx; fun l' => hp p _ _ (g1.trans g) l' (g1.hh.free hq) a b fun dx fs C z => g1.hh.free (c dx fs C z)⟩
end
end DL

namespace DL
open PySem PySem.Spec L2
open PyProof.Rows hiding St

/-! ### statements -/
abbrev FS := En → Option Fl
def sE {α : Type} (m : R α) (e : En) (k : α → Option Fl) : Option Fl := match m with
  | some (.ok a) => k a
  | some (.err x) => some (.er x e)
  | none => none
@[simp] theorem sE_ok {α : Type} (a : α) (e : En) (k : α → Option Fl) : sE (some (.ok a)) e k = k a := rfl
@[simp] theorem sE_err {α : Type} (x : Ex) (e : En) (k : α → Option Fl) : sE (some (.err x)) e k = some (.er x e) := rfl
@[simp] theorem sE_none {α : Type} (e : En) (k : α → Option Fl) : sE (none : R α) e k = none := rfl
def sNext : FS := fun e => some (.nx e)
def sSeq (f g : FS) : FS := fun e => match f e with
  | some (.nx e') => g e'
  | r => r
def sSet (i : Nat) (f : En → R D) : FS := fun e => sE (f e) e fun d => some (.nx (e.set i (.fz d)))
def sSetO (i : Nat) (f : En → R D) : FS := fun e => sE (f e) e fun d => some (.nx (e.set i (.ow d)))
def sDrop (f : En → R D) : FS := fun e => sE (f e) e fun _ => some (.nx e)
def sRet (f : En → R D) : FS := fun e => sE (f e) e fun d => some (.rt d)
def sRetF (f : En → R D) : FS := fun e => sE (f e) e fun d => some (.rf d)
def sRetV (i : Nat) : FS := fun e => match e[i]? with
  | some (.ow d) => some (.rf d)
  | _ => none
def sRetN : FS := fun _ => some (.rt .non)
def sIf (c : En → R Bool) (f g : FS) : FS := fun e => sE (c e) e fun b => if b = true then f e else g e
def sBrk : FS := fun e => some (.bk e)
def sCnt : FS := fun e => some (.ct e)
def sNever : FS := fun _ => none
/-- slot i's own cell becomes still -/
def frz (i : Nat) (e : En) : En := match e[i]? with
  | some (.ow d) => e.set i (.fz d)
  | _ => e
def sFrz (i : Nat) (f : FS) : FS := fun e => f (frz i e)


section
variable {T : Ct} {G0 H0 G H : Hp} {d : D}
/-- an own cell joins the still part of a frame -/
theorem join_still {p : Addr} (g : Good G0 H0 G H) (h0 : H0 p = none) (hg : G p = none) (o : Own T G H p d) (hd : ∀ dx fs C, H p = some (.ins C dx fs) → H0 dx = none) :
    ∃ G2, Good G0 H0 G2 H ∧ Rep T G2 d (.ref p) ∧ Same G G2 ∧ ∀ a, G a = none → a ≠ p → (∀ C dx fs, H p = some (.ins C dx fs) → a ≠ dx) → G2 a = none := by
  cases d with
  | lst ds =>
    obtain ⟨vs, h1, h2⟩ := o
    refine ⟨upd G p (.lst vs), g.join h0 hg h1, ?_, same_join hg, fun a z1 z2 _ => by rw [upd_ne z2]; exact z1⟩
    simp only [Rep]
    exact ⟨p, vs, rfl, upd_same, h2.mono (same_join hg)⟩
  | dct t ks ds =>
    rcases o with ⟨k, h1, a, b, h2⟩ | ⟨k, h1, a, b, h2⟩
    · refine ⟨upd G p (.dK k), g.join h0 hg h1, ?_, same_join hg, fun a z1 z2 _ => by rw [upd_ne z2]; exact z1⟩
      simp only [Rep]
      exact ⟨p, rfl, .inl ⟨k, upd_same, a, b, h2.mono (same_join hg)⟩⟩
    · refine ⟨upd G p (.dT k), g.join h0 hg h1, ?_, same_join hg, fun a z1 z2 _ => by rw [upd_ne z2]; exact z1⟩
      simp only [Rep]
      exact ⟨p, rfl, .inr ⟨k, upd_same, a, b, h2.mono (same_join hg)⟩⟩
  | ins c ns ds =>
    obtain ⟨dx, fs, h1, h2, h3, a, h4⟩ := o
    have hdx := hd _ _ _ h1
    have ne : dx ≠ p := fun z => by rw [z, h1] at h2; cases h2
    have g2 := g.join h0 hg h1
    refine ⟨upd (upd G p (.ins (T.ca c) dx fs)) dx (.own p), g2.join hdx (by rw [upd_ne ne]; exact h3) h2, ?_, (same_join hg).trans (same_join (by rw [upd_ne ne]; exact h3)), fun a z1 z2 z3 => by
      rw [upd_ne (z3 _ _ _ h1), upd_ne z2]; exact z1⟩
    simp only [Rep]
    refine ⟨p, dx, fs, rfl, ?_, upd_same, a, ?_⟩
    · rw [upd_ne (Ne.symm ne), upd_same]
    · exact (h4.mono (same_join hg)).mono (same_join (by rw [upd_ne ne]; exact h3))
  | _ => exact o.elim
end
section
variable {T : Ct} {W : WX} {X : Cx} {G0 H0 G H : Hp} {σ : St} {e : En}
theorem EOut.of_er {x : Ex} {D : Ends} (s : StOk T G0 H0 G H σ e) (h : FPost T W G0 H0 G D (.er x e)) : EOut T W G H σ x := fun d G' H' g ex => h σ d G' H' g.gg (s.ext g) ex
theorem FPost.mono {G' : Hp} {D : Ends} {r : Fl} (g : Same G G') (h : FPost T W G0 H0 G D r) : FPost T W G0 H0 G' D r := by
  cases r with
  | nx e => exact fun σ G2 H2 g2 => h σ G2 H2 (g.trans g2)
  | bk e => exact fun σ G2 H2 g2 => h σ G2 H2 (g.trans g2)
  | ct e => exact fun σ G2 H2 g2 => h σ G2 H2 (g.trans g2)
  | rt d => exact h
  | rf d => exact h
  | er x e => exact fun σ d G2 H2 g2 => h σ d G2 H2 (g.trans g2)
theorem seqSE {fa : En → R D} {k : D → Option Fl} {r : Fl} {D : Ends} {NX : VK} (s : StOk T G0 H0 G H σ e) (h : sE (fa e) e k = some r) (hp : FPost T W G0 H0 G D r)
    (next : ∀ x v G1 H1, Good G H G1 H1 → HLen H1 → StOk T G0 H0 G1 H1 σ e → Rep T G1 x v → k x = some r → NX v H1) : tE T W fa σ H NX := by
  cases q : fa e with
  | none => rw [q] at h; cases h
  | some m =>
    rw [q] at h
    cases m with
    | ok a => exact ⟨G0, H0, G, e, _, s, q, fun v G' H' g l rp => next a v G' H' g l (s.ext g) rp h⟩
    | err x =>
      cases h
      exact ⟨G0, H0, G, e, _, s, q, EOut.of_er s hp⟩
theorem seqSB {fa : En → R D} {k : D → Option Fl} {r : Fl} {D : Ends} {NX : VK} (s : StOk T G0 H0 G H σ e) (h : sE (fa e) e k = some r) (hp : FPost T W G0 H0 G D r)
    (next : ∀ x v G1 H1, Good G H G1 H1 → HLen H1 → StOk T G0 H0 G1 H1 σ e → RepB T G1 H1 x v → k x = some r → NX v H1) : tB T W fa σ H NX := by
  cases q : fa e with
  | none => rw [q] at h; cases h
  | some m =>
    rw [q] at h
    cases m with
    | ok a => exact ⟨G0, H0, G, e, _, s, q, fun v G' H' g l rp => next a v G' H' g l (s.ext g) rp h⟩
    | err x =>
      cases h
      exact ⟨G0, H0, G, e, _, s, q, EOut.of_er s hp⟩
theorem seqSF {fa : En → R D} {k : D → Option Fl} {r : Fl} {D : Ends} {NX : VK} (s : StOk T G0 H0 G H σ e) (h : sE (fa e) e k = some r) (hp : FPost T W G0 H0 G D r)
    (next : ∀ x p G1 H1, Good G H G1 H1 → HLen H1 → StOk T G0 H0 G1 H1 σ e → H p = none → G1 p = none → Own T G1 H1 p x → (∀ dx fs C, H1 p = some (.ins C dx fs) → H dx = none) → k x = some r → NX (.ref p) H1) : tF T W fa σ H NX := by
  cases q : fa e with
  | none => rw [q] at h; cases h
  | some m =>
    rw [q] at h
    cases m with
    | ok a => exact ⟨G0, H0, G, e, _, s, q, fun p G' H' g l h1 h2 o hx => next a p G' H' g l (s.ext g) h1 h2 o hx h⟩
    | err x =>
      cases h
      exact ⟨G0, H0, G, e, _, s, q, EOut.of_er s hp⟩
theorem seqST {fa : En → R Bool} {k : Bool → Option Fl} {r : Fl} {D : Ends} {NX : Bool → Hp → Prop} (s : StOk T G0 H0 G H σ e) (h : sE (fa e) e k = some r) (hp : FPost T W G0 H0 G D r)
    (next : ∀ x G1 H1, Good G H G1 H1 → HLen H1 → StOk T G0 H0 G1 H1 σ e → k x = some r → NX x H1) : tT T W fa σ H NX := by
  cases q : fa e with
  | none => rw [q] at h; cases h
  | some m =>
    rw [q] at h
    cases m with
    | ok a => exact ⟨G0, H0, G, e, _, s, q, fun G' H' g l => next a G' H' g l (s.ext g) h⟩
    | err x =>
      cases h
      exact ⟨G0, H0, G, e, _, s, q, EOut.of_er s hp⟩

/-- a slot gets a still datum -/
theorem StOk.set_fz {i : Nat} {d : D} {v : V} (s : StOk T G0 H0 G H σ e) (r : Rep T G d v) : StOk T G0 H0 G H (σ.set i (some v)) (e.set i (.fz d)) := by
  refine ⟨s.gd, by rw [List.length_set, List.length_set]; exact s.len, fun j t h => ?_, fun a b x y p h1 h2 h3 h4 => ?_⟩
  · by_cases hj : i = j
    · subst hj
      have hl : i < e.length := by
        by_cases hl : i < e.length
        · exact hl
        · rw [List.getElem?_eq_none (by rw [List.length_set]; omega)] at h; cases h
      rw [List.getElem?_set_self hl] at h
      cases h
      rw [List.getElem?_set_self (by rw [s.len]; exact hl)]
      exact ⟨v, rfl, r⟩
    · rw [List.getElem?_set_ne hj] at h ⊢
      exact s.sl j t h
  · by_cases ha : i = a
    · subst ha
      by_cases hl : i < e.length
      · rw [List.getElem?_set_self hl] at h1; cases h1
      · rw [List.getElem?_eq_none (by rw [List.length_set]; omega)] at h1; cases h1
    · by_cases hb : i = b
      · subst hb
        by_cases hl : i < e.length
        · rw [List.getElem?_set_self hl] at h2; cases h2
        · rw [List.getElem?_eq_none (by rw [List.length_set]; omega)] at h2; cases h2
      · rw [List.getElem?_set_ne ha] at h1 h3
        rw [List.getElem?_set_ne hb] at h2 h4
        exact s.ds a b x y p h1 h2 h3 h4
/-- a slot gets an own cell that no other slot has -/
theorem StOk.set_ow {i : Nat} {d : D} {p : Addr} (s : StOk T G0 H0 G H σ e) (h0 : H0 p = none) (hg : G p = none) (o : Own T G H p d) (hd : ∀ dx fs C, H p = some (.ins C dx fs) → H0 dx = none)
    (hn : ∀ (j : Nat) (b : D), e[j]? = some (.ow b) → σ[j]? = some (some (.ref p)) → i = j) : StOk T G0 H0 G H (σ.set i (some (.ref p))) (e.set i (.ow d)) := by
  have hle : ∀ {t : Sl}, (e.set i (.ow d))[i]? = some t → i < e.length := fun h => by
    by_cases hl : i < e.length
    · exact hl
    · rw [List.getElem?_eq_none (by rw [List.length_set]; omega)] at h; cases h
  refine ⟨s.gd, by rw [List.length_set, List.length_set]; exact s.len, fun j t h => ?_, fun a b x y q h1 h2 h3 h4 => ?_⟩
  · by_cases hj : i = j
    · subst hj
      have hl := hle h
      rw [List.getElem?_set_self hl] at h
      cases h
      rw [List.getElem?_set_self (by rw [s.len]; exact hl)]
      exact ⟨p, rfl, hg, h0, o, hd⟩
    · rw [List.getElem?_set_ne hj] at h ⊢
      exact s.sl j t h
  · by_cases ha : i = a
    · subst ha
      by_cases hb : i = b
      · exact hb
      · have hl := hle h1
        rw [List.getElem?_set_self (by rw [s.len]; exact hl)] at h3
        cases h3
        rw [List.getElem?_set_ne hb] at h2 h4
        exact hn b y h2 h4
    · by_cases hb : i = b
      · subst hb
        have hl := hle h2
        rw [List.getElem?_set_self (by rw [s.len]; exact hl)] at h4
        cases h4
        rw [List.getElem?_set_ne ha] at h1 h3
        exact (hn a x h1 h3).symm
      · rw [List.getElem?_set_ne ha] at h1 h3
        rw [List.getElem?_set_ne hb] at h2 h4
        exact s.ds a b x y q h1 h2 h3 h4
/-- a slot is forgotten -/
theorem StOk.set_un {i : Nat} {v : Option V} (s : StOk T G0 H0 G H σ e) : StOk T G0 H0 G H (σ.set i v) (e.set i .un) := by
  refine ⟨s.gd, by rw [List.length_set, List.length_set]; exact s.len, fun j t h => ?_, fun a b x y p h1 h2 h3 h4 => ?_⟩
  · by_cases hj : i = j
    · subst hj
      by_cases hl : i < e.length
      · rw [List.getElem?_set_self hl] at h; cases h; trivial
      · rw [List.getElem?_eq_none (by rw [List.length_set]; omega)] at h; cases h
    · rw [List.getElem?_set_ne hj] at h ⊢
      exact s.sl j t h
  · by_cases ha : i = a
    · subst ha
      by_cases hl : i < e.length
      · rw [List.getElem?_set_self hl] at h1; cases h1
      · rw [List.getElem?_eq_none (by rw [List.length_set]; omega)] at h1; cases h1
    · by_cases hb : i = b
      · subst hb
        by_cases hl : i < e.length
        · rw [List.getElem?_set_self hl] at h2; cases h2
        · rw [List.getElem?_eq_none (by rw [List.length_set]; omega)] at h2; cases h2
      · rw [List.getElem?_set_ne ha] at h1 h3
        rw [List.getElem?_set_ne hb] at h2 h4
        exact s.ds a b x y p h1 h2 h3 h4
/-- the cell of slot i is written -/
theorem StOk.write {i : Nat} {d d' : D} {p : Addr} {o : HO} (s : StOk T G0 H0 G H σ e) (h1 : e[i]? = some (.ow d)) (h2 : σ[i]? = some (some (.ref p))) (hw : ∀ z, H p ≠ some (.own z)) (ow : Own T G (upd H p o) p d') (hd : ∀ dx fs C, o = .ins C dx fs → H0 dx = none) :
    StOk T G0 H0 G (upd H p o) σ (e.set i (.ow d')) := by
  obtain ⟨q, k1, k2, k3, k4, k5⟩ := s.sl i _ h1
  rw [h2] at k1
  cases k1
  obtain ⟨ob, hob⟩ := k4.some
  have hl : i < e.length := (List.getElem?_eq_some_iff.mp h1).1
  have gd : Good G0 H0 G (upd H p o) := ⟨fun a u h => by
      have : a ≠ p := fun z => by rw [z, k2] at h; cases h
      rw [upd_ne this]; exact s.gd.sub a u h, s.gd.gg, fun a u h => by
      have : a ≠ p := fun z => by rw [z, k3] at h; cases h
      rw [upd_ne this]; exact s.gd.hh a u h, s.gd.nw⟩
  have keep : ∀ (x : D) (q : Addr), q ≠ p → Own T G H q x → Own T G (upd H p o) q x := fun x q hq hx => by
    cases x with
    | lst ds => obtain ⟨vs, a, b⟩ := hx; exact ⟨vs, by rw [upd_ne hq]; exact a, b⟩
    | dct t ks ds =>
      rcases hx with ⟨k, a, b⟩ | ⟨k, a, b⟩
      · exact .inl ⟨k, by rw [upd_ne hq]; exact a, b⟩
      · exact .inr ⟨k, by rw [upd_ne hq]; exact a, b⟩
    | ins c ns ds =>
      obtain ⟨dx, fs, a, b, c⟩ := hx
      exact ⟨dx, fs, by rw [upd_ne hq]; exact a, by rw [upd_ne (fun z => by rw [z] at b; exact hw _ b)]; exact b, c⟩
    | _ => exact hx.elim
  refine ⟨gd, by rw [List.length_set]; exact s.len, fun j t h => ?_, fun a b x y q z1 z2 z3 z4 => ?_⟩
  · by_cases hj : i = j
    · subst hj
      rw [List.getElem?_set_self hl] at h
      cases h
      exact ⟨p, h2, k2, k3, ow, fun dx fs C z => by rw [upd_same] at z; exact hd dx fs C (Option.some.inj z)⟩
    · rw [List.getElem?_set_ne hj] at h
      have k := s.sl j t h
      cases t with
      | un => trivial
      | xc _ _ _ => trivial
      | fz _ => exact k
      | ow x =>
        obtain ⟨q, a, b, c, dd, ee⟩ := k
        have hq : q ≠ p := fun z => hj (s.ds i j _ _ p h1 h h2 (by rw [← z]; exact a))
        exact ⟨q, a, b, c, keep x q hq dd, fun dx fs C z => by rw [upd_ne hq] at z; exact ee dx fs C z⟩
  · have g1 : ∃ x', e[a]? = some (.ow x') := by
      by_cases ha : i = a
      · subst ha; exact ⟨_, h1⟩
      · rw [List.getElem?_set_ne ha] at z1; exact ⟨_, z1⟩
    have g2 : ∃ y', e[b]? = some (.ow y') := by
      by_cases hb : i = b
      · subst hb; exact ⟨_, h1⟩
      · rw [List.getElem?_set_ne hb] at z2; exact ⟨_, z2⟩
    obtain ⟨x', g1⟩ := g1
    obtain ⟨y', g2⟩ := g2
    exact s.ds a b x' y' q g1 g2 z3 z4
/-- a slot's cell becomes still -/
theorem StOk.frz (i : Nat) (s : StOk T G0 H0 G H σ e) : ∃ G', Same G G' ∧ StOk T G0 H0 G' H σ (frz i e) := by
  unfold DL.frz
  cases q : e[i]? with
  | none => exact ⟨G, Same.refl G, s⟩
  | some t =>
    cases t with
    | un => exact ⟨G, Same.refl G, s⟩
    | fz _ => exact ⟨G, Same.refl G, s⟩
    | xc _ _ _ => exact ⟨G, Same.refl G, s⟩
    | ow d =>
      obtain ⟨p, k1, k2, k3, k4, k5⟩ := s.sl i _ q
      have hl : i < e.length := (List.getElem?_eq_some_iff.mp q).1
      obtain ⟨G', g', r, gm, gn⟩ := join_still (T := T) s.gd k3 k2 k4 k5
      have inj : ∀ (j : Nat) (x : D) (q' : Addr), i ≠ j → e[j]? = some (.ow x) → σ[j]? = some (some (.ref q')) → q' ≠ p := fun j x q' hj h1 h2 z => hj (s.ds i j _ _ p q h1 k1 (by rw [← z]; exact h2))
      obtain ⟨ob, hob⟩ := k4.some
      refine ⟨G', gm, g', by rw [List.length_set]; exact s.len, fun j t h => ?_, fun a b x y q' z1 z2 z3 z4 => ?_⟩
      · by_cases hj : i = j
        · subst hj
          rw [List.getElem?_set_self hl] at h
          cases h
          exact ⟨.ref p, k1, r⟩
        · rw [List.getElem?_set_ne hj] at h
          have k := s.sl j t h
          cases t with
          | un => trivial
          | xc _ _ _ => trivial
          | fz _ => obtain ⟨u, a, b⟩ := k; exact ⟨u, a, b.mono gm⟩
          | ow x =>
            obtain ⟨q', a, b, c, dd, ee⟩ := k
            have hq := inj j x q' hj h a
            refine ⟨q', a, gn q' b hq fun C dx fs z y => ?_, c, ?_, ee⟩
            · subst y
              have k4' := k4
              cases d with
              | ins c ns ds =>
                obtain ⟨dx, fs', m1, m2, _⟩ := k4'
                rw [z] at m1; cases m1
                obtain ⟨o2, ho2⟩ := dd.some
                cases x with
                | lst _ => obtain ⟨vs, w1, _⟩ := dd; rw [m2] at w1; cases w1
                | dct _ _ _ => rcases dd with ⟨_, w1, _⟩ | ⟨_, w1, _⟩ <;> (rw [m2] at w1; cases w1)
                | ins _ _ _ => obtain ⟨_, _, w1, _⟩ := dd; rw [m2] at w1; cases w1
                | _ => exact dd.elim
              | lst _ => obtain ⟨vs, w1, _⟩ := k4'; rw [z] at w1; cases w1
              | dct _ _ _ => rcases k4' with ⟨_, w1, _⟩ | ⟨_, w1, _⟩ <;> (rw [z] at w1; cases w1)
              | _ => exact k4'.elim
            · cases x with
              | lst ds => obtain ⟨vs, a, b⟩ := dd; exact ⟨vs, a, b.mono gm⟩
              | dct t ks ds =>
                rcases dd with ⟨k, a, b, c, d⟩ | ⟨k, a, b, c, d⟩
                · exact .inl ⟨k, a, b, c, d.mono gm⟩
                · exact .inr ⟨k, a, b, c, d.mono gm⟩
              | ins c' ns ds =>
                obtain ⟨dx, fs, a1, a2, a3, a4, a5⟩ := dd
                refine ⟨dx, fs, a1, a2, gn dx a3 (fun z => ?_) (fun C dx2 fs2 z y => ?_), a4, a5.mono gm⟩
                · rw [z] at a2
                  have k4' := k4
                  cases d with
                  | ins _ _ _ => obtain ⟨_, _, w1, _⟩ := k4'; rw [a2] at w1; cases w1
                  | lst _ => obtain ⟨vs, w1, _⟩ := k4'; rw [a2] at w1; cases w1
                  | dct _ _ _ => rcases k4' with ⟨_, w1, _⟩ | ⟨_, w1, _⟩ <;> (rw [a2] at w1; cases w1)
                  | _ => exact k4'.elim
                · subst y
                  have k4' := k4
                  cases d with
                  | ins _ _ _ =>
                    obtain ⟨_, _, w1, w2, _⟩ := k4'
                    rw [z] at w1; cases w1
                    rw [a2] at w2; cases w2
                    exact hq rfl
                  | lst _ => obtain ⟨vs, w1, _⟩ := k4'; rw [z] at w1; cases w1
                  | dct _ _ _ => rcases k4' with ⟨_, w1, _⟩ | ⟨_, w1, _⟩ <;> (rw [z] at w1; cases w1)
                  | _ => exact k4'.elim
              | _ => exact dd.elim
      · by_cases ha : i = a
        · subst ha
          rw [List.getElem?_set_self hl] at z1; cases z1
        · by_cases hb : i = b
          · subst hb
            rw [List.getElem?_set_self hl] at z2; cases z2
          · rw [List.getElem?_set_ne ha] at z1
            rw [List.getElem?_set_ne hb] at z2
            exact s.ds a b x y q' z1 z2 z3 z4

/-! ### the rules -/
section
variable {a : Expr} {fa : En → R D} {i : Nat} {x : Str} {pos pos' : Pos}
theorem ds_set (hN : X.N.Nodup) (hi : X.N[i]? = some x) (hx : Loc X.env.scope x) (he : PE X a (tE T W fa)) (hs : swapsWith a (some (.Name x pos')) pos.line X.env = pure false := by rfl) (hf : X.fn x = true ∨ X.env.scope.names.lookup x = some .local := by first | exact .inl rfl | exact .inr rfl) :
    PS X (.Assign [.Name x pos'] a pos) (tS T W (sSet i fa)) := by
  refine PS.imp (ps_set hN hi hx he hs hf) fun D σ H l ⟨G0, H0, G, e, r, s, hf, hp⟩ => ?_
  refine seqSE s hf hp fun d v G1 H1 g1 l1 s1 rx hk => ?_
  cases hk
  exact hp _ G1 H1 g1.gg (s1.set_fz rx) l1
theorem ow_new {G1 H1 : Hp} {p : Addr} (s : StOk T G0 H0 G H σ e) (hp : H p = none) : ∀ (j : Nat) (b : D), e[j]? = some (.ow b) → σ[j]? = some (some (.ref p)) → i = j := fun j b h1 h2 => by
  obtain ⟨q, k1, _, _, k4, _⟩ := s.sl j _ h1
  rw [h2] at k1; cases k1
  obtain ⟨o, ho⟩ := k4.some
  rw [hp] at ho; cases ho
theorem ds_setO (hN : X.N.Nodup) (hi : X.N[i]? = some x) (hx : Loc X.env.scope x) (he : PE X a (tF T W fa)) (hs : swapsWith a (some (.Name x pos')) pos.line X.env = pure false := by rfl) (hf : X.fn x = true ∨ X.env.scope.names.lookup x = some .local := by first | exact .inl rfl | exact .inr rfl) :
    PS X (.Assign [.Name x pos'] a pos) (tS T W (sSetO i fa)) := by
  refine PS.imp (ps_set hN hi hx he hs hf) fun D σ H l ⟨G0, H0, G, e, r, s, hf, hp⟩ => ?_
  refine seqSF s hf hp fun d p G1 H1 g1 l1 s1 h1 h2 o hd hk => ?_
  cases hk
  exact hp _ G1 H1 g1.gg (s1.set_ow (s.gd.hh.free h1) h2 o (fun dx fs C z => s.gd.hh.free (hd dx fs C z)) (ow_new (G1 := G1) (H1 := H1) s h1)) l1
theorem ds_drop (he : PE X a (tB T W fa)) (hs : swapsWith a none pos.line X.env = pure false := by rfl) : PS X (.Expr a pos) (tS T W (sDrop fa)) := by
  refine PS.imp (ps_expr he hs) fun D σ H l ⟨G0, H0, G, e, r, s, hf, hp⟩ => ?_
  refine seqSB s hf hp fun d v G1 H1 g1 l1 s1 rx hk => ?_
  cases hk
  exact hp σ G1 H1 g1.gg s1 l1
theorem ds_doc {x j pos pos'} : PS X (.Expr (.Constant (.str x) j pos) pos') (tS T W sNext) := by
  refine PS.imp ps_doc fun D σ H l ⟨G0, H0, G, e, r, s, hf, hp⟩ => ?_
  cases hf
  exact hp σ G H (Same.refl G) s l
theorem ds_pass : PS X (.Pass pos) (tS T W sNext) := by
  refine PS.imp ps_pass fun D σ H l ⟨G0, H0, G, e, r, s, hf, hp⟩ => ?_
  cases hf
  exact hp σ G H (Same.refl G) s l
theorem ds_brk : PS X (.Break pos) (tS T W sBrk) := by
  refine PS.imp ps_break fun D σ H l ⟨G0, H0, G, e, r, s, hf, hp⟩ => ?_
  cases hf
  exact hp σ G H (Same.refl G) s l
theorem ds_cnt : PS X (.Continue pos) (tS T W sCnt) := by
  refine PS.imp ps_continue fun D σ H l ⟨G0, H0, G, e, r, s, hf, hp⟩ => ?_
  cases hf
  exact hp σ G H (Same.refl G) s l
theorem ds_ret (he : PE X a (tE T W fa)) : PS X (.Return (some a) pos) (tS T W (sRet fa)) := by
  refine PS.imp (ps_ret he) fun D σ H l ⟨G0, H0, G, e, r, s, hf, hp⟩ => ?_
  refine seqSE s hf hp fun d v G1 H1 g1 l1 s1 rx hk => ?_
  cases hk
  exact hp v G1 H1 s1.gd l1 rx
theorem ds_retF (he : PE X a (tF T W fa)) : PS X (.Return (some a) pos) (tS T W (sRetF fa)) := by
  refine PS.imp (ps_ret he) fun D σ H l ⟨G0, H0, G, e, r, s, hf, hp⟩ => ?_
  refine seqSF s hf hp fun d p G1 H1 g1 l1 s1 h1 h2 o hd hk => ?_
  cases hk
  exact hp p G1 H1 s1.gd l1 (s.gd.hh.free h1) h2 o fun dx fs C z => s.gd.hh.free (hd dx fs C z)
theorem ds_retV (he : PE X a (tVar i)) : PS X (.Return (some a) pos) (tS T W (sRetV i)) := by
  refine PS.imp (ps_ret he) fun D σ H l ⟨G0, H0, G, e, r, s, hf, hp⟩ => ?_
  unfold sRetV at hf
  split at hf
  · rename_i d hd
    cases hf
    obtain ⟨p, k1, k2, k3, k4, k5⟩ := s.sl i _ hd
    exact ⟨_, k1, hp p G H s.gd l k3 k2 k4 k5⟩
  · cases hf
theorem ds_retN : PS X (.Return none pos) (tS T W sRetN) := by
  refine PS.imp ps_retN fun D σ H l ⟨G0, H0, G, e, r, s, hf, hp⟩ => ?_
  cases hf
  exact hp .non G H s.gd l rep_non
theorem ds_if {c : Expr} {tc : En → R Bool} {ba bb : List Stmt} {f g : FS} (hc : PT X c (tT T W tc)) (ha : PSs X ba (tS T W f)) (hb : PSs X bb (tS T W g)) : PS X (.If c ba bb pos) (tS T W (sIf tc f g)) := by
  refine PS.imp (ps_if hc ha hb) fun D σ H l ⟨G0, H0, G, e, r, s, hf, hp⟩ => ?_
  refine seqST s hf hp fun b G1 H1 g1 l1 s1 hk => ?_
  cases b with
  | true =>
    rw [if_pos rfl] at hk ⊢
    exact ⟨G0, H0, G1, e, r, s1, hk, hp.mono g1.gg⟩
  | false =>
    rw [if_neg Bool.false_ne_true] at hk ⊢
    exact ⟨G0, H0, G1, e, r, s1, hk, hp.mono g1.gg⟩
theorem dss_nil : PSs X [] (tS T W sNext) := by
  refine PSs.imp pss_nil fun D σ H l ⟨G0, H0, G, e, r, s, hf, hp⟩ => ?_
  cases hf
  exact hp σ G H (Same.refl G) s l
theorem dss_one {st : Stmt} {f : FS} (h : PS X st (tS T W f)) : PSs X [st] (tS T W f) := pss_one h
theorem dss_cons {st : Stmt} {rest : List Stmt} {f g : FS} (h : PS X st (tS T W f)) (k : PSs X rest (tS T W g)) : PSs X (st :: rest) (tS T W (sSeq f g)) := by
  refine PSs.imp (pss_cons h k) fun D σ H l ⟨G0, H0, G, e, r, s, hf, hp⟩ => ?_
  show tS T W f { D with nx := tS T W g D } σ H
  cases q : f e with
  | none => unfold sSeq at hf; rw [q] at hf; cases hf
  | some m =>
    unfold sSeq at hf
    rw [q] at hf
    refine ⟨G0, H0, G, e, m, s, q, ?_⟩
    cases m with
    | nx e' => exact fun σ' G' H' g' s' l' => ⟨G0, H0, G', e', r, s', hf, FPost.mono g' hp⟩
    | bk _ => cases hf; exact hp
    | ct _ => cases hf; exact hp
    | rt _ => cases hf; exact hp
    | rf _ => cases hf; exact hp
    | er _ _ => cases hf; exact hp
theorem ds_frz {st : Stmt} {f : FS} (h : PS X st (tS T W f)) : PS X st (tS T W (sFrz i f)) := by
  refine PS.imp h fun D σ H l ⟨G0, H0, G, e, r, s, hf, hp⟩ => ?_
  obtain ⟨G', gm, s'⟩ := s.frz i
  exact ⟨G0, H0, G', _, r, s', hf, hp.mono gm⟩
theorem ds_never {st : Stmt} : PS X st (tS T W sNever) := by
  refine PS.imp ps_never fun D σ H l ⟨G0, H0, G, e, r, s, hf, hp⟩ => ?_
  cases hf
end
end
end DL

namespace DL
open PySem PySem.Spec L2
open PyProof.Rows hiding St

/-! ### own lists grow -/
def sApp (i : Nat) (f : En → R D) : FS := fun e => match e[i]? with
  | some (.ow (.lst xs)) => sE (f e) e fun d => if xs.length < 16777216 then some (.nx (e.set i (.ow (.lst (xs ++ [d]))))) else none
  | _ => none
def sExt (i : Nat) (f : En → R D) : FS := fun e => match e[i]? with
  | some (.ow (.lst xs)) => sE (f e) e fun d => match d with
    | .lst ys => if xs.length + ys.length ≤ 16777216 then some (.nx (e.set i (.ow (.lst (xs ++ ys))))) else none
    | _ => none
  | _ => none
/-- xs.pop() as a statement -/
def sPop (i : Nat) : FS := fun e => match e[i]? with
  | some (.ow (.lst xs)) => if xs.isEmpty = false then some (.nx (e.set i (.ow (.lst xs.dropLast)))) else none
  | _ => none
/-- xs[k] = v -/
def sPut (i : Nat) (fk fv : En → R D) : FS := fun e => sE (fv e) e fun d => match e[i]? with
  | some (.ow (.lst xs)) => sE (fk e) e fun k => match k with
    | .int n => (ixN xs.length n).elim none fun j => some (.nx (e.set i (.ow (.lst (xs.set j d)))))
    | _ => none
  | _ => none
section
variable {T : Ct} {W : WX} {X : Cx} {G0 H0 G H : Hp} {σ : St} {e : En} {a o b : Expr} {fa fb : En → R D} {i : Nat} {pos apos cpos spos : Pos}
theorem own_lst {xs : List D} (s : StOk T G0 H0 G H σ e) (h : e[i]? = some (.ow (.lst xs))) : ∃ p vs, σ[i]? = some (some (.ref p)) ∧ G p = none ∧ H p = some (.lst vs) ∧ RepL T G xs vs := by
  obtain ⟨p, k1, k2, k3, ⟨vs, k4, k5⟩, _⟩ := s.sl i _ h
  exact ⟨p, vs, k1, k2, k4, k5⟩
theorem write_lst {xs ys : List D} {p : Addr} {vs us : List V} (s : StOk T G0 H0 G H σ e) (h : e[i]? = some (.ow (.lst xs))) (k1 : σ[i]? = some (some (.ref p))) (k4 : H p = some (.lst vs)) (r : RepL T G ys us) :
    StOk T G0 H0 G (upd H p (.lst us)) σ (e.set i (.ow (.lst ys))) :=
  s.write h k1 (fun z q => by rw [k4] at q; cases q) ⟨us, upd_same, r⟩ fun dx fs C z => by cases z
theorem ds_app (ho : PE X o (tVar i)) (ha : PE X a (tE T W fa)) (hbase : attributeBase o "append" X.env (eval o X.env) = eval o X.env := by rfl)
    (hfew : ((backTo cpos (starEach (a :: []) X.env)).all (fun x => !x.1) && (backToKw cpos (keywordEach [] X.env)).all (fun x => x.1.isSome)
      && decide ((a :: []).length + ([] : List Keyword).length + (if ([] : List Keyword).isEmpty then 0 else 1) < 30)) = true := by rfl)
    (hline : (apos.endLine == cpos.line) = true := by rfl) (hs : starEach (a :: []) X.env = (false, eval a X.env) :: starEach [] X.env := by rfl) (hsw : swapsWith (.Call (.Attribute o "append" apos) [a] [] cpos) none spos.line X.env = pure false := by rfl) :
    PS X (.Expr (.Call (.Attribute o "append" apos) [a] [] cpos) spos) (tS T W (sApp i fa)) := by
  refine PS.imp (ps_expr (pe_bm PySem.F.plainAttrs_list PySem.F.slot_list_append PySem.F.type_list_append mt_append ho (pa_cons ha pa_nil hs) hbase hfew hline hs rfl) hsw) fun D σ H l ⟨G0, H0, G, e, r, s, hf, hp⟩ => ?_
  unfold sApp at hf
  split at hf
  · rename_i xs hx
    obtain ⟨p, vs, k1, k2, k3, k4⟩ := own_lst s hx
    refine ⟨_, k1, .inl ⟨rfl, vs, .of k3⟩, seqSE s hf hp fun d v G1 H1 g1 l1 s1 rx hk => ?_⟩
    split at hk
    · rename_i hz
      cases hk
      have k3' := g1.hh _ _ k3
      have k4' := k4.mono g1.gg
      rw [k4.length] at hz
      exact ⟨p, vs, v, rfl, rfl, k3', lt_line hz, hp σ G1 _ g1.gg (write_lst s1 hx k1 k3' (k4'.append (.cons rx .nil))) (hlen_upd l1 (by show (vs ++ [v]).length ≤ _; rw [List.length_append, List.length_singleton]; exact le_line (by omega)))⟩
    · cases hk
  · cases hf
theorem ds_ext (ho : PE X o (tVar i)) (ha : PE X a (tB T W fa)) (hbase : attributeBase o "extend" X.env (eval o X.env) = eval o X.env := by rfl)
    (hfew : ((backTo cpos (starEach (a :: []) X.env)).all (fun x => !x.1) && (backToKw cpos (keywordEach [] X.env)).all (fun x => x.1.isSome)
      && decide ((a :: []).length + ([] : List Keyword).length + (if ([] : List Keyword).isEmpty then 0 else 1) < 30)) = true := by rfl)
    (hline : (apos.endLine == cpos.line) = true := by rfl) (hs : starEach (a :: []) X.env = (false, eval a X.env) :: starEach [] X.env := by rfl) (hsw : swapsWith (.Call (.Attribute o "extend" apos) [a] [] cpos) none spos.line X.env = pure false := by rfl) :
    PS X (.Expr (.Call (.Attribute o "extend" apos) [a] [] cpos) spos) (tS T W (sExt i fa)) := by
  refine PS.imp (ps_expr (pe_bm PySem.F.plainAttrs_list PySem.F.slot_list_extend PySem.F.type_list_extend mt_extend ho (pa_cons ha pa_nil hs) hbase hfew hline hs rfl) hsw) fun D σ H l ⟨G0, H0, G, e, r, s, hf, hp⟩ => ?_
  unfold sExt at hf
  split at hf
  · rename_i xs hx
    obtain ⟨p, vs, k1, k2, k3, k4⟩ := own_lst s hx
    refine ⟨_, k1, .inl ⟨rfl, vs, .of k3⟩, seqSB s hf hp fun d v G1 H1 g1 l1 s1 rx hk => ?_⟩
    split at hk
    · split at hk
      · rename_i hz
        cases hk
        have k3' := g1.hh _ _ k3
        have k4' := k4.mono g1.gg
        obtain ⟨q, us, rfl, m1, m2⟩ := rb_lst s1.same rx
        rw [k4.length, m2.length] at hz
        exact ⟨p, q, vs, us, rfl, rfl, k3', m1, le_line hz, hp σ G1 _ g1.gg (write_lst s1 hx k1 k3' (k4'.append m2)) (hlen_upd l1 (by show (vs ++ us).length ≤ _; rw [List.length_append]; exact le_line hz))⟩
      · cases hk
    · cases hk
  · cases hf
theorem ds_pop (ho : PE X o (tVar i)) (hbase : attributeBase o "pop" X.env (eval o X.env) = eval o X.env := by rfl) (hline : (apos.endLine == cpos.line) = true := by rfl) (hsw : swapsWith (.Call (.Attribute o "pop" apos) [] [] cpos) none spos.line X.env = pure false := by rfl) :
    PS X (.Expr (.Call (.Attribute o "pop" apos) [] [] cpos) spos) (tS T W (sPop i)) := by
  refine PS.imp (ps_expr (pe_bm0 PySem.F.plainAttrs_list PySem.F.slot_list_pop PySem.F.type_list_pop mt_pop ho hbase hline) hsw) fun D σ H l ⟨G0, H0, G, e, r, s, hf, hp⟩ => ?_
  unfold sPop at hf
  split at hf
  · rename_i xs hx
    obtain ⟨p, vs, k1, k2, k3, k4⟩ := own_lst s hx
    split at hf
    · rename_i hz
      cases hf
      have hl := k4.length
      have hne : vs ≠ [] := fun z => by subst z; cases xs <;> simp_all
      have hv : vs[vs.length - 1]? = some (vs.getLast hne) := by rw [← List.getLast?_eq_getElem?, List.getLast?_eq_some_getLast hne]
      have hd : RepL T G xs.dropLast vs.dropLast := by rw [List.dropLast_eq_take, List.dropLast_eq_take, hl]; exact k4.take _
      exact ⟨_, k1, .inl ⟨rfl, vs, .of k3⟩, p, vs, _, rfl, rfl, k3, hv, hp σ G _ (Same.refl G) (write_lst s hx k1 k3 hd) (hlen_upd l (by have : vs.length ≤ sizeLine := l p _ k3; show vs.dropLast.length ≤ _; rw [List.length_dropLast]; omega))⟩
    · cases hf
  · cases hf
theorem ds_put {tp : Pos} (ho : PE X o (tVar i)) (hk : PE X b (tE T W fb)) (ha : PE X a (tE T W fa)) (hset : ∀ v, assign (.Subscript o b tp) X.env v = (do
      let ov ← holding [v] (eval o X.env)
      let iv ← holding [v, ov] (eval b X.env)
      standAt tp
      holding [v, ov, iv] (setItem ov iv v)
      release [v, ov, iv] []) := by intro _; rfl) (hs : swapsWithSole [.Subscript o b tp] a spos.line X.env = pure false := by rfl) (hw : swappedStores [.Subscript o b tp] a X.env = pure none := by rfl)
    (h1 : (assignEach [.Subscript o b tp] X.env).map (·.2) = [assign (.Subscript o b tp) X.env] := by rfl) : PS X (.Assign [.Subscript o b tp] a spos) (tS T W (sPut i fb fa)) := by
  refine PS.imp (ps_asg ha (pg_sub ho hk set_list hset) hs hw h1) fun D σ H l ⟨G0, H0, G, e, r, s, hf, hp⟩ => ?_
  refine seqSE s hf hp fun d v G1 H1 g1 l1 s1 rx hk => ?_
  split at hk
  · rename_i xs hx
    obtain ⟨p, vs, k1, k2, k3, k4⟩ := own_lst s1 hx
    refine ⟨_, k1, seqSE s1 hk (hp.mono g1.gg) fun k u G2 H2 g2 l2 s2 ry hk2 => ?_⟩
    split at hk2
    · rename_i n
      obtain rfl : u = .int n := by simpa only [Rep] using ry
      cases q : ixN xs.length n with
      | none => rw [q] at hk2; cases hk2
      | some j =>
        rw [q] at hk2
        cases hk2
        have k3' := g2.hh _ _ k3
        have k4' := k4.mono g2.gg
        rw [k4.length] at q
        exact ⟨p, vs, n, j, rfl, rfl, k3', q, hp σ G2 _ (g1.gg.trans g2.gg) (write_lst s2 hx k1 k3' (k4'.set j (rx.mono g2.gg))) (hlen_upd l2 (by have : vs.length ≤ sizeLine := l2 p _ k3'; show (vs.set j v).length ≤ _; rw [List.length_set]; exact this))⟩
    · cases hk2
  · cases hk
end

/-! ### targets -/
abbrev FG := D → En → Option En
abbrev FGs := List D → En → Option En
def gN (i : Nat) : FG := fun d e => some (e.set i (.fz d))
def gsN : FGs := fun ds e => match ds with
  | [] => some e
  | _ => none
def gsC (g : FG) (r : FGs) : FGs := fun ds e => match ds with
  | d :: ds => (g d e).elim none (r ds)
  | _ => none
def gT (n : Nat) (r : FGs) : FG := fun d e => match d with
  | .tup ds => if ds.length = n then r ds e else none
  | _ => none
def tG (T : Ct) (g : FG) : TG := fun v σ H Q => ∃ G0 H0 G e d e', StOk T G0 H0 G H σ e ∧ HLen H ∧ Rep T G d v ∧ g d e = some e' ∧ ∀ σ' G' H', Same G G' → StOk T G0 H0 G' H' σ' e' → HLen H' → Q σ' H'
def tGs (T : Ct) (g : FGs) : TGs := fun vs σ H Q => ∃ G0 H0 G e ds e', StOk T G0 H0 G H σ e ∧ HLen H ∧ RepL T G ds vs ∧ g ds e = some e' ∧ ∀ σ' G' H', Same G G' → StOk T G0 H0 G' H' σ' e' → HLen H' → Q σ' H'
theorem PG.imp {X : Cx} {e : Expr} {t t' : TG} (h : PG X e t) (k : ∀ v σ H Q, t' v σ H Q → t v σ H Q) : PG X e t' := ⟨fun pins s σ H v u Q I r q => h.run pins s σ H v u Q I r (k v σ H Q q)⟩
theorem PGs.imp {X : Cx} {e : List Expr} {t t' : TGs} (h : PGs X e t) (k : ∀ v σ H Q, t' v σ H Q → t v σ H Q) : PGs X e t' := ⟨fun pins s σ H v u Q I r q => h.run pins s σ H v u Q I r (k v σ H Q q)⟩
section
variable {T : Ct} {W : WX} {X : Cx} {i : Nat} {x : Str} {pos : Pos} {a : Expr} {fa : En → R D}
theorem dg_name (hN : X.N.Nodup) (hi : X.N[i]? = some x) (hx : Loc X.env.scope x) (hf : X.fn x = true ∨ X.env.scope.names.lookup x = some .local := by first | exact .inl rfl | exact .inr rfl) : PG X (.Name x pos) (tG T (gN i)) := by
  refine PG.imp (pg_name hN hi hx hf) fun v σ H Q ⟨G0, H0, G, e, d, e', s, l, r, hg, hq⟩ => ?_
  cases hg
  exact hq _ G H (Same.refl G) (s.set_fz r) l
theorem dgs_nil : PGs X [] (tGs T gsN) := by
  refine PGs.imp pgs_nil fun v σ H Q ⟨G0, H0, G, e, ds, e', s, l, r, hg, hq⟩ => ?_
  unfold gsN at hg
  split at hg
  · cases hg
    simp only [RepL] at r
    exact ⟨r, hq σ G H (Same.refl G) s l⟩
  · cases hg
theorem dgs_cons {es : List Expr} {g : FG} {gr : FGs} (h : PG X a (tG T g)) (hr : PGs X es (tGs T gr)) (hs : (assignEach (a :: es) X.env).map (·.2) = assign a X.env :: (assignEach es X.env).map (·.2) := by rfl) : PGs X (a :: es) (tGs T (gsC g gr)) := by
  refine PGs.imp (pgs_cons h hr hs) fun v σ H Q ⟨G0, H0, G, e, ds, e', s, l, r, hg, hq⟩ => ?_
  unfold gsC at hg
  split at hg
  · rename_i d ds
    simp only [RepL] at r
    obtain ⟨v, vs, rfl, r1, r2⟩ := r
    cases q : g d e with
    | none => rw [q] at hg; cases hg
    | some e1 =>
      rw [q] at hg
      exact ⟨v, vs, rfl, G0, H0, G, e, d, e1, s, l, r1, q, fun σ' G' H' gd' s' l' => ⟨G0, H0, G', e1, ds, e', s', l', r2.mono gd', hg, fun σ2 G2 H2 gd2 => hq σ2 G2 H2 (gd'.trans gd2)⟩⟩
  · cases hg
theorem dg_tup {es : List Expr} {k n : Nat} {gr : FGs} (hK : T.K = X.K) (hc : X.calm = true) (h : PGs X es (tGs T gr)) (hn : (assignEach es X.env).length = n := by rfl) (hst : (assignEach es X.env).findIdx? (·.1) = none := by rfl) : PG X (.Tuple es k pos) (tG T (gT n gr)) := by
  refine PG.imp (pg_tup hc h hn hst) fun v σ H Q ⟨G0, H0, G, e, d, e', s, l, r, hg, hq⟩ => ?_
  unfold gT at hg
  split at hg
  · split at hg
    · rename_i hl
      simp only [Rep] at r
      obtain ⟨p, vs, rfl, r1, r2⟩ := r
      replace r1 : SqT X.K G p vs := SqT.of r1
      exact ⟨p, vs, rfl, sqT_mono s.same r1, by rw [← r2.length]; exact hl, G0, H0, G, e, _, e', s, l, r2, hg, hq⟩
    · cases hg
  · cases hg
/-- xs[k] = v, d[k] = v on an own cell -/
def gP (i : Nat) (fk : En → R D) : FG := fun d e => match e[i]? with
  | some (.ow (.lst xs)) => match fk e with
    | some (.ok (.int n)) => (ixN xs.length n).elim none fun j => some (e.set i (.ow (.lst (xs.set j d))))
    | _ => none
  | some (.ow (.dct t ks vs)) => match fk e with
    | some (.ok k) => if kOk t k = true ∧ ks.length < 16777216 then some (e.set i (.ow (.dct t (dputK ks k) (dputV ks vs k d)))) else none
    | _ => none
  | _ => none
def rSetA : TSet := fun o i v H Q => rSetL o i v H Q ∨ ∃ a H', o = .ref a ∧ DPut H a i v H' ∧ Q H'
section
variable {T : Ct} {W : WX} {X : Cx} {i : Nat} {x : Str} {pos : Pos} {o b : Expr} {fb : En → R D}
theorem set_any (hu : X.A.units + 1 < cLine) : PSet X rSetA := by
  intro pins s σ H o i v ov iv u Q I ro ri rv h
  rcases h with h | ⟨a, H', rfl, g, q⟩
  · exact set_list pins s σ H o i v ov iv u Q I ro ri rv h
  · cases ro
    exact d_setItem hu I g ri rv fun s' I' => ⟨H', I', q⟩
theorem own_dct {t : Bool} {ks ds : List D} {G0 H0 G H : Hp} {σ : St} {e : En} (s : StOk T G0 H0 G H σ e) (h : e[i]? = some (.ow (.dct t ks ds))) :
    ∃ p, σ[i]? = some (some (.ref p)) ∧ G p = none ∧ Own T G H p (.dct t ks ds) := by
  obtain ⟨p, k1, k2, k3, k4, _⟩ := s.sl i _ h
  exact ⟨p, k1, k2, k4⟩
theorem dg_put (hu : X.A.units + 64 < cLine) (ho : PE X o (tVar i)) (hk : PE X b (tE T W fb)) (hset : ∀ v, assign (.Subscript o b pos) X.env v = (do
      let ov ← holding [v] (eval o X.env)
      let iv ← holding [v, ov] (eval b X.env)
      standAt pos
      holding [v, ov, iv] (setItem ov iv v)
      release [v, ov, iv] []) := by intro _; rfl) : PG X (.Subscript o b pos) (tG T (gP i fb)) := by
  refine PG.imp (pg_sub ho hk (set_any (by omega)) hset) fun v σ H Q ⟨G0, H0, G, e, d, e', s, l, r, hg, hq⟩ => ?_
  · unfold gP at hg
    split at hg
    · rename_i xs hx
      split at hg
      · rename_i n hn
        obtain ⟨p, vs, k1, k2, k3, k4⟩ := own_lst s hx
        refine ⟨_, k1, G0, H0, G, e, _, s, hn, fun u G2 H2 g2 l2 ry => ?_⟩
        obtain rfl : u = .int n := by simpa only [Rep] using ry
        cases q : ixN xs.length n with
        | none => rw [q] at hg; cases hg
        | some j =>
          rw [q] at hg
          cases hg
          have s2 := s.ext g2
          have k3' := g2.hh _ _ k3
          have k4' := k4.mono g2.gg
          rw [k4.length] at q
          exact .inl ⟨p, vs, n, j, rfl, rfl, k3', q, hq σ G2 _ g2.gg (write_lst s2 hx k1 k3' (k4'.set j (r.mono g2.gg))) (hlen_upd l2 (by have : vs.length ≤ sizeLine := l2 p _ k3'; show (vs.set j v).length ≤ _; rw [List.length_set]; exact this))⟩
      · cases hg
    · rename_i t ks ds hx
      split at hg
      · rename_i k hn
        split at hg
        · rename_i c
          cases hg
          obtain ⟨p, k1, k2, k3⟩ := own_dct s hx
          refine ⟨_, k1, G0, H0, G, e, _, s, hn, fun u G2 H2 g2 l2 ry => ?_⟩
          have s2 := s.ext g2
          have r' := r.mono g2.gg
          rcases k3.good g2 with ⟨kvs, h1, ⟨rfl, rfl⟩, h3, h4⟩ | ⟨kvs, h1, ⟨rfl, rfl⟩, h3, h4⟩
          · obtain ⟨kk, rfl⟩ := kOk_f c.1
            obtain ⟨rfl, hk2⟩ := keyD_V ry
            obtain ⟨e1, e2⟩ := dput_enc (T := T) (G := G2) deq_key kk r' h4
            have hl : kvs.length < sizeLine := lt_line (by have := c.2; rw [List.length_map] at this; exact this)
            refine .inr ⟨p, _, rfl, DPut.k h1 hl, hq σ G2 _ g2.gg (s2.write hx k1 (fun z w => by rw [h1] at w; cases w) (.inl ⟨_, upd_same, ⟨rfl, e1⟩, putK_ok h3 hk2, e2⟩) (fun dx fs C z => nomatch z)) (hlen_upd l2 ?_)⟩
            show (putK kvs kk v).length ≤ _
            have := length_putK kvs kk v
            omega
          · obtain ⟨kk, rfl⟩ := kOk_t c.1
            simp only [Rep] at ry
            obtain ⟨b, ws, rfl, h6, h7⟩ := ry
            obtain ⟨rfl, hk2⟩ := keysD_V h7
            obtain ⟨e1, e2⟩ := dput_enc (T := T) (G := G2) (enc := fun z : List Key => D.tup (z.map keyD)) deq_keys kk r' h4
            have hl : kvs.length < sizeLine := lt_line (by have := c.2; rw [List.length_map] at this; exact this)
            refine .inr ⟨p, _, rfl, DPut.t h1 (g2.sub _ _ h6) hl, hq σ G2 _ g2.gg (s2.write hx k1 (fun z w => by rw [h1] at w; cases w) (.inr ⟨_, upd_same, ⟨rfl, e1⟩, putK_ok (f := fun z : List Key => z.all keyOk) h3 hk2, e2⟩) (fun dx fs C z => nomatch z)) (hlen_upd l2 ?_)⟩
            show (putK kvs kk v).length ≤ _
            have := length_putK kvs kk v
            omega
        · cases hg
      · cases hg
    · cases hg
end
def sAsg (g : FG) (f : En → R D) : FS := fun e => sE (f e) e fun d => (g d e).elim none fun e' => some (.nx e')
theorem ds_asg {tg : Expr} {g : FG} (he : PE X a (tE T W fa)) (hg : PG X tg (tG T g)) (hs : swapsWithSole [tg] a pos.line X.env = pure false := by rfl) (hw : swappedStores [tg] a X.env = pure none := by rfl)
    (h1 : (assignEach [tg] X.env).map (·.2) = [assign tg X.env] := by rfl) : PS X (.Assign [tg] a pos) (tS T W (sAsg g fa)) := by
  refine PS.imp (ps_asg he hg hs hw h1) fun D σ H l ⟨G0, H0, G, e, r, s, hf, hp⟩ => ?_
  refine seqSE s hf hp fun d v G1 H1 g1 l1 s1 rx hk => ?_
  cases q : g d e with
  | none => rw [q] at hk; cases hk
  | some e' =>
    rw [q] at hk
    cases hk
    exact ⟨G0, H0, G1, e, d, e', s1, l1, rx, q, fun σ' G' H' gd' s' l' => hp σ' G' H' (g1.gg.trans gd') s' l'⟩
/-- a, b = x, y (plain local names) -/
def sPar2 (i j : Nat) (fs : En → R (List D)) : FS := fun e => sE (fs e) e fun ds => match ds with
  | [x, y] => some (.nx ((e.set i (.fz x)).set j (.fz y)))
  | _ => none
def sPar3 (i j k : Nat) (fs : En → R (List D)) : FS := fun e => sE (fs e) e fun ds => match ds with
  | [x, y, z] => some (.nx (((e.set i (.fz x)).set j (.fz y)).set k (.fz z)))
  | _ => none
theorem seqSA {G0 H0 G H : Hp} {σ : St} {e : En} {fa : En → R (List D)} {k : List D → Option Fl} {r : Fl} {D : Ends} {NX : List V → Hp → Prop} (s : StOk T G0 H0 G H σ e) (h : sE (fa e) e k = some r) (hp : FPost T W G0 H0 G D r)
    (next : ∀ x v G1 H1, Good G H G1 H1 → HLen H1 → StOk T G0 H0 G1 H1 σ e → RepL T G1 x v → k x = some r → NX v H1) : tAs T W fa σ H NX := by
  cases q : fa e with
  | none => rw [q] at h; cases h
  | some m =>
    rw [q] at h
    cases m with
    | ok a => exact ⟨G0, H0, G, e, _, s, q, fun v G' H' g l rp => next a v G' H' g l (s.ext g) rp h⟩
    | err x =>
      cases h
      exact ⟨G0, H0, G, e, _, s, q, EOut.of_er s hp⟩
theorem ds_par2 {j : Nat} {y : Str} {a b : Expr} {px py pt : Pos} {kt k2 pt2} {fs : En → R (List D)} (hc : X.calm = true) (hN : X.N.Nodup) (hi : X.N[i]? = some x) (hj : X.N[j]? = some y) (hij : i ≠ j)
    (hx : X.env.scope.names.lookup x = some .local) (hy : X.env.scope.names.lookup y = some .local) (ha : PA X [a, b] (tAs T W fs))
    (hw : swappedStores [.Tuple [.Name x px, .Name y py] kt pt] (.Tuple [a, b] k2 pt2) X.env = pure (some [x, y]))
    (hs : swapsWithSole [.Tuple [.Name x px, .Name y py] kt pt] (.Tuple [a, b] k2 pt2) pos.line X.env = pure false := by rfl) :
    PS X (.Assign [.Tuple [.Name x px, .Name y py] kt pt] (.Tuple [a, b] k2 pt2) pos) (tS T W (sPar2 i j fs)) := by
  refine PS.imp (ps_par hc hN hi hj hij hx hy ha hw hs) fun D σ H l ⟨G0, H0, G, e, r, s, hf, hp⟩ => ?_
  refine seqSA s hf hp fun ds vs G1 H1 g1 l1 s1 rx hk => ?_
  split at hk
  · cases hk
    simp only [RepL] at rx
    obtain ⟨u, _, rfl, r1, w, _, rfl, r2, rfl⟩ := rx
    exact ⟨u, w, rfl, hp _ G1 H1 g1.gg ((s1.set_fz r1).set_fz r2) l1⟩
  · cases hk
theorem ds_par3 {j k : Nat} {y z : Str} {a b c : Expr} {px py pz pt : Pos} {kt k2 pt2} {fs : En → R (List D)} (hc : X.calm = true) (hN : X.N.Nodup) (hi : X.N[i]? = some x) (hj : X.N[j]? = some y) (hk : X.N[k]? = some z) (hij : i ≠ j) (hik : i ≠ k) (hjk : j ≠ k)
    (hx : X.env.scope.names.lookup x = some .local) (hy : X.env.scope.names.lookup y = some .local) (hz : X.env.scope.names.lookup z = some .local) (ha : PA X [a, b, c] (tAs T W fs))
    (hw : swappedStores [.Tuple [.Name x px, .Name y py, .Name z pz] kt pt] (.Tuple [a, b, c] k2 pt2) X.env = pure (some [x, y, z]))
    (hs : swapsWithSole [.Tuple [.Name x px, .Name y py, .Name z pz] kt pt] (.Tuple [a, b, c] k2 pt2) pos.line X.env = pure false := by rfl) :
    PS X (.Assign [.Tuple [.Name x px, .Name y py, .Name z pz] kt pt] (.Tuple [a, b, c] k2 pt2) pos) (tS T W (sPar3 i j k fs)) := by
  refine PS.imp (ps_par3 hc hN hi hj hk hij hik hjk hx hy hz ha hw hs) fun D σ H l ⟨G0, H0, G, e, r, s, hf, hp⟩ => ?_
  refine seqSA s hf hp fun ds vs G1 H1 g1 l1 s1 rx hk => ?_
  split at hk
  · cases hk
    simp only [RepL] at rx
    obtain ⟨u, _, rfl, r1, w, _, rfl, r2, t, _, rfl, r3, rfl⟩ := rx
    exact ⟨u, w, t, rfl, hp _ G1 H1 g1.gg (((s1.set_fz r1).set_fz r2).set_fz r3) l1⟩
  · cases hk
end
end DL

namespace DL
open PySem PySem.Spec L2
open PyProof.Rows hiding St

/-! ### what is walked -/
/-- J yields the data ds, one a turn, wherever the heap has grown as Rl tells -/
def ItOk (T : Ct) (Rl : Hp → Hp → Prop) (J : It) (ds : List D) : Prop :=
  ds.length ≤ sizeLine ∧ ∀ G H, Rl G H → Same G H → HLen H → J.stop ds.length H ∧ ∀ i d, ds[i]? = some d → J.go i H ∧ ∀ x H', J.yld i H x H' → ∃ G', Good G H G' H' ∧ HLen H' ∧ Rep T G' d x
abbrev FI := En → R (List D)
/-- the walked thing stands still -/
def tI (T : Ct) (W : WX) (f : FI) : TI := fun σ H R => ∃ G0 H0 G e r, StOk T G0 H0 G H σ e ∧ f e = some r ∧ PV T W G H σ (fun ds => ∀ J G' H', Good G H G' H' → HLen H' → ItOk T (fun G2 _ => Same G' G2) J ds → R J H') r
/-- .. or nothing at all is written while it is walked -/
def tIB (T : Ct) (W : WX) (f : FI) : TI := fun σ H R => ∃ G0 H0 G e r, StOk T G0 H0 G H σ e ∧ f e = some r ∧ PV T W G H σ (fun ds => ∀ J G' H', Good G H G' H' → HLen H' → ItOk T (fun G2 H2 => Good G' H' G2 H2) J ds → R J H') r
theorem PI.imp {X : Cx} {tg e : Expr} {t t' : TI} (h : PI X tg e t) (k : ∀ σ H R, HLen H → t' σ H R → t σ H (fun J H' => HLen H' → R J H')) : PI X tg e t' := by
  refine ⟨fun pins s σ H R I q => ?_⟩
  refine thn (h.run pins s σ H _ I (k σ H R (HLen.of I.hok) q)) fun u s1 h1 => thn h1 fun v s2 ⟨it, fp, tn, J, H', a, I', b, c, d, z⟩ => ⟨it, fp, tn, J, H', a, I', b, c, d, z (HLen.of I'.hok)⟩
theorem PI.or {X : Cx} {tg e : Expr} {t t' : TI} (h : PI X tg e t) (h' : PI X tg e t') : PI X tg e (fun σ H R => t σ H R ∨ t' σ H R) := by
  refine ⟨fun pins s σ H R I q => ?_⟩
  rcases q with q | q
  · exact h.run pins s σ H R I q
  · exact h'.run pins s σ H R I q

def signs (z : Str) : List D := z.cps.toList.map fun c => .str ⟨#[c]⟩
/-- the items of a datum -/
def items : D → R (List D)
  | .lst xs => ok xs
  | .tup xs => ok xs
  | .str z => if z.length ≤ 16777216 then ok (signs z) else none
  | .scr ns => ok (ns.map .int)
  | _ => none
def iA (f : En → R D) : FI := fun e => bR (f e) items
def iR1 (f : En → R D) : FI := fun e => bR (f e) fun d => match d with
  | .int n => if n.natAbs < 1000000 then ok ((List.range n.toNat).map fun (k : Nat) => .int k) else none
  | _ => none
def rng (a b : Int) : List D := (List.range (b - a).toNat).map fun (k : Nat) => .int (a + k)
def iR2 (f g : En → R D) : FI := fun e => bR (f e) fun d => bR (g e) fun d' => match d, d' with
  | .int a, .int b => if a.natAbs < 1000000 ∧ b.natAbs < 1000000 then ok (rng a b) else none
  | _, _ => none
/-- range(a, b, -1) -/
def rngD (a b : Int) : List D := (List.range (a - b).toNat).map fun (k : Nat) => .int (a - k)
def iR3 (f g : En → R D) : FI := fun e => bR (f e) fun d => bR (g e) fun d' => match d, d' with
  | .int a, .int b => if a.natAbs < 1000000 ∧ b.natAbs < 1000000 then ok (rngD a b) else none
  | _, _ => none
def enumD : Nat → List D → List D
  | _, [] => []
  | k, d :: ds => .tup [.int k, d] :: enumD (k + 1) ds
def iEn (f : En → R D) : FI := fun e => bR (f e) fun d => match d with
  | .lst xs => ok (enumD 0 xs)
  | _ => none
def zipD : List D → List D → List D
  | x :: xs, y :: ys => .tup [x, y] :: zipD xs ys
  | _, _ => []
def iZ (f g : En → R D) : FI := fun e => bR (f e) fun d => bR (g e) fun d' => match d, d' with
  | .lst xs, .lst ys => ok (zipD xs ys)
  | .tup xs, .tup ys => ok (zipD xs ys)
  | _, _ => none
def iRv (f : En → R D) : FI := fun e => bR (f e) fun d => match d with
  | .lst xs => ok xs.reverse
  | .tup xs => ok xs.reverse
  | _ => none

section
variable {T : Ct} {W : WX} {X : Cx} {tg a b : Expr} {fa fb : En → R D} {p pos : Pos}
theorem ib {f : FI} (h : PI X tg a (tI T W f)) : PI X tg a (tIB T W f) := by
  refine PI.imp h fun σ H R l ⟨G0, H0, G, e, r, s, hf, hp⟩ => ⟨G0, H0, G, e, r, s, hf, ?_⟩
  cases r with
  | err x => exact hp
  | ok ds => exact fun J G' H' g l io _ => hp J G' H' g l ⟨io.1, fun G2 H2 g2 s2 l2 => io.2 G2 H2 g2.gg s2 l2⟩
theorem ItOk.list {Rl : Hp → Hp → Prop} {q : Addr} {ds : List D} {vs : List V} (hl : vs.length ≤ sizeLine) (h : ∀ G H, Rl G H → Same G H → SqL X.K H q vs ∧ RepL T G ds vs) (hd : ds.length = vs.length) : ItOk T Rl (Itl X.K q) ds := ⟨by rw [hd]; exact hl, fun G H rl s l => by
  obtain ⟨h1, h2⟩ := h G H rl s
  refine ⟨⟨vs, h1, by rw [h2.length]; exact Nat.le_refl _⟩, fun i d hd => ?_⟩
  obtain ⟨v, a, b⟩ := h2.get hd
  refine ⟨⟨vs, v, h1, a⟩, fun x H' hy => ?_⟩
  obtain ⟨rfl, y⟩ := hy
  have := y vs h1
  rw [a] at this; cases this
  exact ⟨G, Good.refl s, l, b⟩⟩
theorem ItOk.tuple {Rl : Hp → Hp → Prop} {q : Addr} {ds : List D} {vs : List V} (hl : vs.length ≤ sizeLine) (h : ∀ G H, Rl G H → Same G H → SqT X.K H q vs ∧ RepL T G ds vs) (hd : ds.length = vs.length) : ItOk T Rl (Itt X.K q) ds := ⟨by rw [hd]; exact hl, fun G H rl s l => by
  obtain ⟨h1, h2⟩ := h G H rl s
  refine ⟨⟨vs, h1, by rw [h2.length]; exact Nat.le_refl _⟩, fun i d hd => ?_⟩
  obtain ⟨v, a, b⟩ := h2.get hd
  refine ⟨⟨vs, v, h1, a⟩, fun x H' hy => ?_⟩
  obtain ⟨rfl, y⟩ := hy
  have := y vs h1
  rw [a] at this; cases this
  exact ⟨G, Good.refl s, l, b⟩⟩
theorem ItOk.text {Rl : Hp → Hp → Prop} {z : Str} (hl : z.length ≤ 16777216) (hz : PyData.strOk z = true) : ItOk T Rl (Its z) (signs z) := ⟨by unfold signs; rw [List.length_map, Array.length_toList]; exact le_line hl, fun G H rl s l => by
  refine ⟨?_, fun i d hd => ?_⟩
  · show z.cps.size ≤ (signs z).length
    simp [signs]
  · unfold signs at hd
    rw [List.getElem?_map] at hd
    cases q : z.cps.toList[i]? with
    | none => rw [q] at hd; cases hd
    | some c =>
      rw [q] at hd
      cases hd
      have hi : i < z.cps.size := by have := (List.getElem?_eq_some_iff.mp q).1; simpa using this
      refine ⟨hi, fun x H' hy => ?_⟩
      obtain ⟨rfl, c', hc, rfl⟩ := hy
      have : c' = c := by
        have q' : z.cps[i]? = some c := by rw [← q]; simp
        rw [hc] at q'; exact Option.some.inj q'
      subst this
      refine ⟨G, Good.refl s, l, rep_str ?_⟩
      have h' : z.cps.all (· < 0x110000) = true := hz
      rw [← Array.all_toList, List.all_eq_true] at h'
      have := h' c' (List.mem_of_getElem? q)
      simpa [PyData.strOk] using this⟩
theorem ints_rep (G : Hp) : ∀ ns : List Int, RepL T G (ns.map .int) (ns.map V.int)
  | [] => .nil
  | n :: ns => .cons rep_int (ints_rep G ns)
def iAll (K : PySem.W.Frag) (te : TE) : TI := fun σ H R => iList K te σ H R ∨ (fun σ H R => iTup K te σ H R ∨ iStr te σ H R) σ H R
theorem pi_all {te : TE} (h : PE X a te) : PI X tg a (iAll X.K te) := PI.or (pi_list h) (PI.or (pi_tup h) (pi_str h))
theorem seqER {β : Type} {fa : En → R D} {k : D → R β} {r : Rs β} {G0 H0 G H : Hp} {σ : St} {e : En} {kk : β → Prop} (h : bR (fa e) k = some r) : (∃ x, fa e = some (.err x) ∧ r = .err x) ∨ ∃ d, fa e = ok d ∧ k d = some r := by
  cases q : fa e with
  | none => rw [q] at h; cases h
  | some m =>
    rw [q] at h
    cases m with
    | err x => cases h; exact .inl ⟨x, rfl, rfl⟩
    | ok d => exact .inr ⟨d, rfl, h⟩
/-- a list, a tuple, a text, walked -/
theorem di_all (hK : T.K = X.K) (h : PE X a (tE T W fa)) : PI X tg a (tI T W (iA fa)) := by
  refine PI.imp (pi_all h) fun σ H R l ⟨G0, H0, G, e, r, s, hf, hp⟩ => ?_
  rcases seqER (G0 := G0) (H0 := H0) (G := G) (H := H) (σ := σ) (kk := fun _ => True) hf with ⟨x, h1, rfl⟩ | ⟨d, h1, h2⟩
  · exact .inl ⟨G0, H0, G, e, _, s, h1, hp⟩
  · cases d with
    | lst xs =>
      cases h2
      refine .inl ⟨G0, H0, G, e, _, s, h1, fun v G' H' g l' rp => ?_⟩
      simp only [Rep] at rp
      obtain ⟨q, vs, rfl, k1, k2⟩ := rp
      exact ⟨q, rfl, ⟨vs, .of (g.sub _ _ k1)⟩, fun l2 => hp _ G' H' g l2 (ItOk.list (l2 q _ (g.sub _ _ k1)) (fun G2 H2 rl s2 => ⟨.of (s2 _ _ (rl _ _ k1)), k2.mono rl⟩) k2.length)⟩
    | tup xs =>
      cases h2
      refine .inr (.inl ⟨G0, H0, G, e, _, s, h1, fun v G' H' g l' rp => ?_⟩)
      simp only [Rep] at rp
      obtain ⟨q, vs, rfl, k1, k2⟩ := rp
      replace k1 : SqT X.K G' q vs := SqT.of k1
      exact ⟨q, rfl, ⟨vs, sqT_mono g.sub k1⟩, fun l2 => hp _ G' H' g l2 (ItOk.tuple (sqT_len l2 (sqT_mono g.sub k1)) (fun G2 H2 rl s2 => ⟨sqT_mono s2 (sqT_mono rl k1), k2.mono rl⟩) k2.length)⟩
    | str z =>
      obtain ⟨hz, rfl⟩ := if_okB h2
      refine .inr (.inr ⟨G0, H0, G, e, _, s, h1, fun v G' H' g l' rp => ?_⟩)
      simp only [Rep] at rp
      obtain ⟨rfl, k1⟩ := rp
      exact ⟨z, rfl, fun l2 => hp _ G' H' g l2 (ItOk.text hz k1)⟩
    | scr ns =>
      cases h2
      refine .inl ⟨G0, H0, G, e, _, s, h1, fun v G' H' g l' rp => ?_⟩
      simp only [Rep] at rp
      obtain ⟨q, rfl, k1⟩ := rp
      rw [hK] at k1
      exact ⟨q, rfl, ⟨_, g.sub.seq k1⟩, fun l2 => hp _ G' H' g l2 (ItOk.list (sqL_len l2 (g.sub.seq k1)) (fun G2 H2 rl s2 => ⟨s2.seq (rl.seq k1), ints_rep G2 ns⟩) (by simp))⟩
    | _ => cases h2
/-- .. a list that may be an own cell -/
theorem dib_all (hK : T.K = X.K) (h : PE X a (tB T W fa)) : PI X tg a (tIB T W (iA fa)) := by
  refine PI.imp (pi_all h) fun σ H R l ⟨G0, H0, G, e, r, s, hf, hp⟩ => ?_
  rcases seqER (G0 := G0) (H0 := H0) (G := G) (H := H) (σ := σ) (kk := fun _ => True) hf with ⟨x, h1, rfl⟩ | ⟨d, h1, h2⟩
  · exact .inl ⟨G0, H0, G, e, _, s, h1, hp⟩
  · cases d with
    | lst xs =>
      cases h2
      refine .inl ⟨G0, H0, G, e, _, s, h1, fun v G' H' g l' rp => ?_⟩
      obtain ⟨q, vs, rfl, k1, k2⟩ := rb_lst g.sub rp
      exact ⟨q, rfl, ⟨vs, .of k1⟩, fun l2 => hp _ G' H' g l2 (ItOk.list (l2 q _ k1) (fun G2 H2 rl s2 => ⟨.of (rl.hh _ _ k1), k2.mono rl.gg⟩) k2.length)⟩
    | tup xs =>
      cases h2
      refine .inr (.inl ⟨G0, H0, G, e, _, s, h1, fun v G' H' g l' rp => ?_⟩)
      obtain ⟨q, vs, rfl, k1, k2⟩ := rb_tup g.sub rp
      rw [hK] at k1
      exact ⟨q, rfl, ⟨vs, sqT_mono g.sub k1⟩, fun l2 => hp _ G' H' g l2 (ItOk.tuple (sqT_len l2 (sqT_mono g.sub k1)) (fun G2 H2 rl s2 => ⟨sqT_mono s2 (sqT_mono rl.gg k1), k2.mono rl.gg⟩) k2.length)⟩
    | str z =>
      obtain ⟨hz, rfl⟩ := if_okB h2
      refine .inr (.inr ⟨G0, H0, G, e, _, s, h1, fun v G' H' g l' rp => ?_⟩)
      obtain ⟨rfl, k1⟩ := rb_str rp
      exact ⟨z, rfl, fun l2 => hp _ G' H' g l2 (ItOk.text hz k1)⟩
    | scr ns =>
      cases h2
      refine .inl ⟨G0, H0, G, e, _, s, h1, fun v G' H' g l' rp => ?_⟩
      obtain ⟨q, rfl, k1⟩ := rb_scr rp
      rw [hK] at k1
      exact ⟨q, rfl, ⟨_, g.sub.seq k1⟩, fun l2 => hp _ G' H' g l2 (ItOk.list (sqL_len l2 (g.sub.seq k1)) (fun G2 H2 rl s2 => ⟨s2.seq (rl.gg.seq k1), ints_rep G2 ns⟩) (by simp))⟩
    | _ => cases h2
theorem ItOk.rng {Rl : Hp → Hp → Prop} {lo : Int} {n : Nat} (hl : n ≤ 16777216) : ItOk T Rl (Itr lo n) ((List.range n).map fun (k : Nat) => .int (lo + k)) := ⟨by rw [List.length_map, List.length_range]; exact le_line hl, fun G H rl s l => by
  refine ⟨by show n ≤ _; simp, fun i d hd => ?_⟩
  rw [List.getElem?_map] at hd
  by_cases hi : i < n
  · rw [List.getElem?_range hi] at hd
    cases hd
    refine ⟨hi, fun x H' hy => ?_⟩
    obtain ⟨rfl, rfl⟩ := hy
    exact ⟨G, Good.refl s, l, rep_int⟩
  · rw [List.getElem?_eq_none (by simp; omega)] at hd; cases hd⟩
theorem seqIA {k : List D → R (List D)} {fs : En → R (List D)} {r : Rs (List D)} {G0 H0 G H : Hp} {σ : St} {e : En} {kk : List D → Prop} {NX : List V → Hp → Prop} (s : StOk T G0 H0 G H σ e) (h : bR (fs e) k = some r) (hp : PV T W G H σ kk r)
    (next : ∀ x v G1 H1, Good G H G1 H1 → HLen H1 → StOk T G0 H0 G1 H1 σ e → RepL T G1 x v → k x = some r → NX v H1) : tAs T W fs σ H NX := seqA s h hp next
theorem di_range1 (h : PE X a (tE T W fa)) (hg : Gl X "range") (hm : X.mg "range" = none) (hs : starEach [a] X.env = [(false, eval a X.env)] := by rfl) : PI X tg (.Call (.Name "range" p) [a] [] pos) (tI T W (iR1 fa)) := by
  refine PI.imp (pi_range1 hg hm (pa_cons h pa_nil hs) hs) fun σ H R l ⟨G0, H0, G, e, r, s, hf, hp⟩ => ?_
  refine seqE s hf hp fun d v G1 H1 g1 l1 s1 rx hk => ?_
  cases d with
  | int n =>
    obtain rfl : v = .int n := by simpa only [Rep] using rx
    obtain ⟨c, rfl⟩ := if_okB hk
    refine ⟨n, rfl, by omega, by omega, fun l2 => hp _ G1 H1 g1 l2 ?_⟩
    have := ItOk.rng (T := T) (Rl := fun G2 _ => Same G1 G2) (lo := 0) (n := n.toNat) (by omega)
    simpa using this
  | _ => cases hk
theorem di_range2 (h : PE X a (tE T W fa)) (k : PE X b (tE T W fb)) (hg : Gl X "range") (hm : X.mg "range" = none) (hs : starEach [a, b] X.env = [(false, eval a X.env), (false, eval b X.env)] := by rfl) (hs2 : starEach [b] X.env = [(false, eval b X.env)] := by rfl) : PI X tg (.Call (.Name "range" p) [a, b] [] pos) (tI T W (iR2 fa fb)) := by
  refine PI.imp (pi_range2 hg hm (pa_cons h (pa_cons k pa_nil hs2) (by rw [hs, hs2])) hs hs2) fun σ H R l ⟨G0, H0, G, e, r, s, hf, hp⟩ => ?_
  refine seqE s hf hp fun d v G1 H1 g1 l1 s1 rx hk => ?_
  refine seqE (kk := fun _ => True) s1 hk (hp.ext g1 fun _ _ => trivial) fun d2 v2 G2 H2 g2 l2 s2 ry hk2 => ?_
  split at hk2
  · rename_i n m
    obtain rfl : v = .int n := by simpa only [Rep] using rx
    obtain rfl : v2 = .int m := by simpa only [Rep] using ry
    obtain ⟨c, rfl⟩ := if_okB hk2
    refine ⟨n, m, rfl, ⟨by omega, by omega, by omega, by omega⟩, fun l3 => hp _ G2 H2 (g1.trans g2) l3 (ItOk.rng (by omega))⟩
  · cases hk2
theorem enumD_len : ∀ (ds : List D) k, (enumD k ds).length = ds.length := by
  intro ds; induction ds with
  | nil => intro k; rfl
  | cons d ds ih => intro k; simp [enumD, ih]
theorem ItOk.enum {Rl : Hp → Hp → Prop} {q : Addr} {ds : List D} {vs : List V} (hl : vs.length ≤ sizeLine) (hd0 : ds.length = vs.length) (h : ∀ G H, Rl G H → Same G H → SqL X.K H q vs ∧ RepL T G ds vs) : ItOk T Rl (Ite X.K q) (enumD 0 ds) := ⟨by rw [enumD_len, hd0]; exact hl, fun G H rl s l => by
  have get : ∀ (ds : List D) (k i : Nat), (enumD k ds)[i]? = (ds[i]?).map fun d => .tup [.int ((k + i : Nat)), d] := by
    intro ds; induction ds with
    | nil => intro k i; rfl
    | cons d ds ih =>
      intro k i
      cases i with
      | zero => simp [enumD]
      | succ i => simp only [enumD, List.getElem?_cons_succ, ih]; rw [show k + 1 + i = k + (i + 1) by omega]
  obtain ⟨h1, h2⟩ := h G H rl s
  refine ⟨⟨vs, h1, by rw [enumD_len, h2.length]; exact Nat.le_refl _⟩, fun i d hd => ?_⟩
  rw [get] at hd
  cases q2 : ds[i]? with
  | none => rw [q2] at hd; cases hd
  | some d' =>
    rw [q2] at hd
    cases hd
    obtain ⟨v, a, b⟩ := h2.get q2
    refine ⟨⟨vs, v, h1, a⟩, fun x H' hy => ?_⟩
    obtain ⟨t, y, rfl, ht, rfl, hy⟩ := hy
    have := hy vs h1
    rw [a] at this; cases this
    obtain ⟨g, r⟩ := new_tup (T := T) s ht (.cons (d := .int ((0 + i : Nat))) rep_int (.cons b .nil))
    simp only [Nat.zero_add] at g r
    exact ⟨_, g, hlen_upd l (le_line (by simp [olen])), by simpa using r⟩⟩
theorem di_enum {elts : List Expr} {kk : Nat} {tpos : Pos} (h : PE X a (tE T W fa)) (hg : Gl X "enumerate") (hm : X.mg "enumerate" = none) (hs : starEach [a] X.env = [(false, eval a X.env)] := by rfl) :
    PI X (.Tuple elts kk tpos) (.Call (.Name "enumerate" p) [a] [] pos) (tI T W (iEn fa)) := by
  refine PI.imp (pi_enum hg hm (pa_cons h pa_nil hs) hs) fun σ H R l ⟨G0, H0, G, e, r, s, hf, hp⟩ => ?_
  refine seqE s hf hp fun d v G1 H1 g1 l1 s1 rx hk => ?_
  cases d with
  | lst xs =>
    cases hk
    simp only [Rep] at rx
    obtain ⟨q, vs, rfl, k1, k2⟩ := rx
    exact ⟨q, vs, rfl, .of (g1.sub _ _ k1), fun l2 => hp _ G1 H1 g1 l2 (ItOk.enum (l2 q _ (s1.same _ _ k1)) k2.length fun G2 H2 rl s2 => ⟨.of (s2 _ _ (rl _ _ k1)), k2.mono rl⟩)⟩
  | _ => cases hk
theorem zipD_len : ∀ (xs ys : List D), (zipD xs ys).length = min xs.length ys.length
  | [], _ => by simp [zipD]
  | _ :: _, [] => by simp [zipD]
  | x :: xs, y :: ys => by simp [zipD, zipD_len xs ys]
theorem zipD_get : ∀ (xs ys : List D) (i : Nat) (d : D), (zipD xs ys)[i]? = some d → ∃ x y, xs[i]? = some x ∧ ys[i]? = some y ∧ d = .tup [x, y]
  | [], _, _, _, h => by simp [zipD] at h
  | _ :: _, [], _, _, h => by simp [zipD] at h
  | x :: xs, y :: ys, 0, d, h => by simp [zipD] at h; exact ⟨x, y, rfl, rfl, h.symm⟩
  | x :: xs, y :: ys, i + 1, d, h => by
    obtain ⟨u, v, a, b, c⟩ := zipD_get xs ys i d (by simpa [zipD] using h)
    exact ⟨u, v, by simpa using a, by simpa using b, c⟩
theorem di_zip {elts : List Expr} {kk : Nat} {tpos : Pos} (hK : T.K = X.K) (h : PE X a (tE T W fa)) (h' : PE X b (tE T W fb)) (hg : Gl X "zip") (hm : X.mg "zip" = none) (hs : starEach [a, b] X.env = (false, eval a X.env) :: starEach [b] X.env := by rfl) (hpl : (backTo pos (starEach [b] X.env)).any (·.1) = false := by rfl)
    (hs2 : starEach [b] X.env = (false, eval b X.env) :: starEach [] X.env := by rfl) : PI X (.Tuple elts kk tpos) (.Call (.Name "zip" p) [a, b] [] pos) (tI T W (iZ fa fb)) := by
  refine PI.imp (RZ.pi_zipA hg hm (pa_cons h (pa_cons h' pa_nil hs2) hs) hs hpl) fun σ H R l ⟨G0, H0, G, e, r, s, hf, hp⟩ => ?_
  refine seqE s hf hp fun d v G1 H1 g1 l1 s1 rx hk => ?_
  refine seqE (kk := fun _ => True) s1 hk (hp.ext g1 fun _ _ => trivial) fun d2 v2 G2 H2 g2 l2 s2 ry hk2 => ?_
  replace rx := rx.mono g2.gg
  split at hk2
  · rename_i xs ys
    cases hk2
    simp only [Rep] at rx ry
    obtain ⟨q, vs, rfl, k1, k2⟩ := rx
    obtain ⟨q', vs', rfl, k1', k2'⟩ := ry
    refine ⟨q, q', vs, vs', rfl, .inl ⟨.of (g2.sub _ _ k1), .of (g2.sub _ _ k1'), fun l3 => hp _ G2 H2 (g1.trans g2) l3 ⟨by rw [zipD_len, k2.length]; have := sqL_len l3 (K := X.K) (.of (g2.sub _ _ k1)); omega, fun G3 H3 rl s3 l4 => ?_⟩⟩⟩
    have m1 : SqL X.K H3 q vs := .of (s3 _ _ (rl _ _ k1))
    have m2 : SqL X.K H3 q' vs' := .of (s3 _ _ (rl _ _ k1'))
    have n1 := k2.mono rl
    have n2 := k2'.mono rl
    refine ⟨⟨vs, vs', m1, m2, ?_⟩, fun i d hd => ?_⟩
    · rw [zipD_len, n1.length, n2.length]; omega
    · obtain ⟨x, y, hx, hy, rfl⟩ := zipD_get _ _ _ _ hd
      obtain ⟨v, a1, b1⟩ := n1.get hx
      obtain ⟨v', a2, b2⟩ := n2.get hy
      refine ⟨⟨vs, vs', v, v', m1, m2, a1, a2⟩, fun w H' hw => ?_⟩
      obtain ⟨t, w1, w2, rfl, ht, rfl, hw1, hw2⟩ := hw
      have e1 := hw1 vs m1
      have e2 := hw2 vs' m2
      rw [a1] at e1; cases e1
      rw [a2] at e2; cases e2
      obtain ⟨g, r⟩ := new_tup (T := T) s3 ht (.cons b1 (.cons b2 .nil))
      exact ⟨_, g, hlen_upd l4 (le_line (by simp [olen])), r⟩
  · rename_i xs ys
    cases hk2
    simp only [Rep] at rx ry
    obtain ⟨q, vs, rfl, k1, k2⟩ := rx
    obtain ⟨q', vs', rfl, k1', k2'⟩ := ry
    replace k1 : SqT X.K G2 q vs := SqT.of k1
    replace k1' : SqT X.K G2 q' vs' := SqT.of k1'
    refine ⟨q, q', vs, vs', rfl, .inr ⟨sqT_mono g2.sub k1, sqT_mono g2.sub k1', fun l3 => hp _ G2 H2 (g1.trans g2) l3 ⟨by rw [zipD_len, k2.length]; have := sqT_len l3 (sqT_mono g2.sub k1); omega, fun G3 H3 rl s3 l4 => ?_⟩⟩⟩
    have m1 : SqT X.K H3 q vs := sqT_mono s3 (sqT_mono rl k1)
    have m2 : SqT X.K H3 q' vs' := sqT_mono s3 (sqT_mono rl k1')
    have n1 := k2.mono rl
    have n2 := k2'.mono rl
    refine ⟨⟨vs, vs', m1, m2, ?_⟩, fun i d hd => ?_⟩
    · rw [zipD_len, n1.length, n2.length]; omega
    · obtain ⟨x, y, hx, hy, rfl⟩ := zipD_get _ _ _ _ hd
      obtain ⟨v, a1, b1⟩ := n1.get hx
      obtain ⟨v', a2, b2⟩ := n2.get hy
      refine ⟨⟨vs, vs', v, v', m1, m2, a1, a2⟩, fun w H' hw => ?_⟩
      obtain ⟨t, w1, w2, rfl, ht, rfl, hw1, hw2⟩ := hw
      have e1 := hw1 vs m1
      have e2 := hw2 vs' m2
      rw [a1] at e1; cases e1
      rw [a2] at e2; cases e2
      obtain ⟨g, r⟩ := new_tup (T := T) s3 ht (.cons b1 (.cons b2 .nil))
      exact ⟨_, g, hlen_upd l4 (le_line (by simp [olen])), r⟩
  · cases hk2
end

/-! ### for -/
def forS (tg : FG) (body : FS) : List D → FS
  | [], e => some (.nx e)
  | d :: ds, e => match tg d e with
    | none => none
    | some e1 => match body e1 with
      | some (.nx e2) => forS tg body ds e2
      | some (.ct e2) => forS tg body ds e2
      | some (.bk e2) => some (.nx e2)
      | r => r
def sFor (it : FI) (tg : FG) (body : FS) : FS := fun e => sE (it e) e fun ds => forS tg body ds e
section
variable {T : Ct} {W : WX} {X : Cx} {pos : Pos}
theorem ds_for {tg iter : Expr} {body : List Stmt} {fi : FI} {g : FG} {fb : FS} (hpo : PassesOwn (model X.prog X.w) X.A X.env X.xe) (hc : X.calm = true) (hi : PI X tg iter (tI T W fi)) (hg : PG X tg (tG T g)) (hb : PSs X body (tS T W fb))
    (hs : ∀ x, foldedSetIterable iter X.env x = pure x := by intro _; rfl) : PS X (.For tg iter body [] pos) (tS T W (sFor fi g fb)) := by
  refine PS.imp (ps_for hpo hc hi hg hb hs) fun D σ H l ⟨G0, H0, G, e, r, s, hf, hp⟩ => ?_
  unfold sFor at hf
  cases q : fi e with
  | none => rw [q] at hf; cases hf
  | some m =>
    rw [q] at hf
    cases m with
    | err x =>
      cases hf
      exact ⟨G0, H0, G, e, _, s, q, EOut.of_er s hp⟩
    | ok ds =>
      refine ⟨G0, H0, G, e, _, s, q, fun J G1 H1 g1 l1 io => ?_⟩
      have s1 := s.ext g1
      have hp1 : FPost T W G0 H0 G1 D r := FPost.mono g1.gg hp
      refine ⟨fun i m σ' H' => m = ds.length - i ∧ i ≤ ds.length ∧ HLen H' ∧ ∃ G' e', Same G1 G' ∧ StOk T G0 H0 G' H' σ' e' ∧ forS g fb (ds.drop i) e' = some r,
        ⟨ds.length, by simp, Nat.zero_le _, l1, G1, e, Same.refl G1, s1, by simpa using hf⟩, ?_⟩
      rintro i m σ2 H2 ⟨rfl, hi2, l2, G2, e2, gm, s2, hk⟩
      obtain ⟨io1, io2⟩ := io.2 G2 H2 gm s2.same l2
      by_cases hlt : i < ds.length
      · have hd : ds[i]? = some ds[i] := List.getElem?_eq_getElem hlt
        obtain ⟨go, yl⟩ := io2 i _ hd
        rw [List.drop_eq_getElem_cons hlt] at hk
        unfold forS at hk
        cases q1 : g ds[i] e2 with
        | none => rw [q1] at hk; cases hk
        | some e3 =>
          rw [q1] at hk
          cases q2 : fb e3 with
          | none => simp only [q2] at hk; cases hk
          | some fl =>
            simp only [q2] at hk
            refine .inr ⟨go, fun σ' H' => HLen H' ∧ ∃ G' e', Same G1 G' ∧ StOk T G0 H0 G' H' σ' e' ∧ forS g fb (ds.drop (i + 1)) e' = some r, fun σ' H' ⟨lx, G', e', z1, z2, z3⟩ => ⟨ds.length - (i + 1), by omega, rfl, hlt, lx, G', e', z1, z2, z3⟩, fun x H' hy => ?_⟩
            obtain ⟨G3, g3, l3, r3⟩ := yl x H' hy
            refine ⟨G0, H0, G3, e2, ds[i], e3, s2.ext g3, l3, r3, q1, fun σ4 G4 H4 g4 s4 l4 => ?_⟩
            have gm4 : Same G1 G4 := (gm.trans g3.gg).trans g4
            refine ⟨G0, H0, G4, e3, fl, s4, q2, ?_⟩
            cases fl with
            | nx e5 => exact fun σ5 G5 H5 g5 s5 l5 => ⟨l5, G5, e5, gm4.trans g5, s5, hk⟩
            | ct e5 => exact fun σ5 G5 H5 g5 s5 l5 => ⟨l5, G5, e5, gm4.trans g5, s5, hk⟩
            | bk e5 =>
              cases hk
              exact fun σ5 G5 H5 g5 s5 l5 => hp1 σ5 G5 H5 (gm4.trans g5) s5 l5
            | rt d => cases hk; exact hp1
            | rf d => cases hk; exact hp1
            | er x e5 => cases hk; exact fun σ5 d G5 H5 g5 s5 ex => hp1 σ5 d G5 H5 (gm4.trans g5) s5 ex
      · have ei : i = ds.length := by omega
        subst ei
        rw [List.drop_length] at hk
        cases hk
        exact .inl ⟨io1, hp1 σ2 G2 H2 gm s2 l2⟩
end
end DL

namespace DL
open PySem PySem.Spec L2
open PyProof.Rows hiding St

/-! ### [elt for tg in it if cond] -/
def wipeE (e : En) : List Nat → En
  | [] => e
  | v :: vs => (wipeE e vs).set v .un
def compL (own : List Nat) (tg : FG) (cond : En → R Bool) (elt : En → R D) (e : En) : List D → Option (List D)
  | [] => some []
  | d :: ds => match tg d (wipeE e own) with
    | none => none
    | some e1 => match cond e1 with
      | some (.ok true) => match elt e1 with
        | some (.ok y) => (compL own tg cond elt e ds).map (y :: ·)
        | _ => none
      | some (.ok false) => compL own tg cond elt e ds
      | _ => none
def eComp (own : List Nat) (it : FI) (tg : FG) (cond : En → R Bool) (elt : En → R D) : En → R D := fun e => bR (it e) fun ds => (compL own tg cond elt e ds).elim none fun ys => ok (.lst ys)
def tTrue : En → R Bool := fun _ => ok true
/-- the slots that the target writes are the block's own -/
def Own1 (own : List Nat) (g : FG) : Prop := ∀ d e e', g d e = some e' → ∀ i, i ∉ own → e'[i]? = e[i]?
section
variable {T : Ct} {W : WX} {X : Cx}
theorem compL_len {own : List Nat} {tg : FG} {cond : En → R Bool} {elt : En → R D} {e : En} : ∀ {ds ys : List D}, compL own tg cond elt e ds = some ys → ys.length ≤ ds.length
  | [], ys, h => by cases h; exact Nat.le_refl _
  | d :: ds, ys, h => by
    unfold compL at h
    split at h
    · cases h
    · split at h
      · split at h
        · cases q : compL own tg cond elt e ds with
          | none => rw [q] at h; cases h
          | some zs =>
            rw [q] at h
            cases h
            have := compL_len q
            simp; omega
        · cases h
      · have := compL_len h
        simp; omega
      · cases h
theorem StOk.wipe {G0 H0 G H : Hp} {σ : St} {e : En} (s : StOk T G0 H0 G H σ e) : ∀ vs : List Nat, StOk T G0 H0 G H (wipe σ vs) (wipeE e vs)
  | [] => s
  | v :: vs => (StOk.wipe s vs).set_un
/-- a target's reading, the slots told -/
def tGo (T : Ct) (own : List Nat) (g : FG) : TG := fun v σ H Q => ∃ G0 H0 G e d e', StOk T G0 H0 G H σ e ∧ HLen H ∧ Rep T G d v ∧ g d e = some e' ∧ ∀ σ' G' H', Good G H G' H' → StOk T G0 H0 G' H' σ' e' → HLen H' → (∀ i, i ∉ own → σ'[i]? = σ[i]?) ∧ σ'.length = σ.length → Q σ' H'
def tGso (T : Ct) (own : List Nat) (g : FGs) : TGs := fun vs σ H Q => ∃ G0 H0 G e ds e', StOk T G0 H0 G H σ e ∧ HLen H ∧ RepL T G ds vs ∧ g ds e = some e' ∧ ∀ σ' G' H', Good G H G' H' → StOk T G0 H0 G' H' σ' e' → HLen H' → (∀ i, i ∉ own → σ'[i]? = σ[i]?) ∧ σ'.length = σ.length → Q σ' H'
variable {i : Nat} {x : Str} {pos : Pos} {a : Expr} {own : List Nat}
theorem dgo_name (hN : X.N.Nodup) (hi : X.N[i]? = some x) (hx : Loc X.env.scope x) (ho : i ∈ own) (hf : X.fn x = true ∨ X.env.scope.names.lookup x = some .local := by first | exact .inl rfl | exact .inr rfl) : PG X (.Name x pos) (tGo T own (gN i)) := by
  refine PG.imp (pg_name hN hi hx hf) fun v σ H Q ⟨G0, H0, G, e, d, e', s, l, r, hg, hq⟩ => ?_
  cases hg
  exact hq _ G H (Good.refl s.same) (s.set_fz r) l ⟨fun j hj => List.getElem?_set_ne fun z => hj (by rw [← z]; exact ho), List.length_set⟩
theorem dgso_nil : PGs X [] (tGso T own gsN) := by
  refine PGs.imp pgs_nil fun v σ H Q ⟨G0, H0, G, e, ds, e', s, l, r, hg, hq⟩ => ?_
  unfold gsN at hg
  split at hg
  · cases hg
    simp only [RepL] at r
    exact ⟨r, hq σ G H (Good.refl s.same) s l ⟨fun _ _ => rfl, rfl⟩⟩
  · cases hg
theorem dgso_cons {es : List Expr} {g : FG} {gr : FGs} (h : PG X a (tGo T own g)) (hr : PGs X es (tGso T own gr)) (hs : (assignEach (a :: es) X.env).map (·.2) = assign a X.env :: (assignEach es X.env).map (·.2) := by rfl) : PGs X (a :: es) (tGso T own (gsC g gr)) := by
  refine PGs.imp (pgs_cons h hr hs) fun v σ H Q ⟨G0, H0, G, e, ds, e', s, l, r, hg, hq⟩ => ?_
  unfold gsC at hg
  split at hg
  · rename_i d ds
    simp only [RepL] at r
    obtain ⟨v, vs, rfl, r1, r2⟩ := r
    cases q : g d e with
    | none => rw [q] at hg; cases hg
    | some e1 =>
      rw [q] at hg
      exact ⟨v, vs, rfl, G0, H0, G, e, d, e1, s, l, r1, q, fun σ' G' H' gd' s' l' k' => ⟨G0, H0, G', e1, ds, e', s', l', r2.mono gd'.gg, hg, fun σ2 G2 H2 gd2 s2 l2 k2 => hq σ2 G2 H2 (gd'.trans gd2) s2 l2 ⟨fun j hj => (k2.1 j hj).trans (k'.1 j hj), k2.2.trans k'.2⟩⟩⟩
  · cases hg
theorem dgo_tup {es : List Expr} {k n : Nat} {gr : FGs} (hK : T.K = X.K) (hc : X.calm = true) (h : PGs X es (tGso T own gr)) (hn : (assignEach es X.env).length = n := by rfl) (hst : (assignEach es X.env).findIdx? (·.1) = none := by rfl) : PG X (.Tuple es k pos) (tGo T own (gT n gr)) := by
  refine PG.imp (pg_tup hc h hn hst) fun v σ H Q ⟨G0, H0, G, e, d, e', s, l, r, hg, hq⟩ => ?_
  unfold gT at hg
  split at hg
  · split at hg
    · rename_i hl
      simp only [Rep] at r
      obtain ⟨p, vs, rfl, r1, r2⟩ := r
      replace r1 : SqT X.K G p vs := SqT.of r1
      exact ⟨p, vs, rfl, sqT_mono s.same r1, by rw [← r2.length]; exact hl, G0, H0, G, e, _, e', s, l, r2, hg, hq⟩
    · cases hg
  · cases hg
theorem wipe_same {σ σ' : St} : ∀ {vs : List Nat}, (∀ i, i ∉ vs → σ'[i]? = σ[i]?) → σ'.length = σ.length → wipe σ' vs = wipe σ vs := by
  intro vs h hl
  apply List.ext_getElem?
  intro i
  have key : ∀ (τ : St) (vs : List Nat), (wipe τ vs)[i]? = if i ∈ vs then (if i < τ.length then some none else none) else τ[i]? := by
    intro τ vs
    induction vs with
    | nil => simp [wipe]
    | cons v vs ih =>
      unfold wipe
      by_cases hv : v = i
      · subst hv
        rw [List.getElem?_set]
        simp [wipe_length]
      · rw [List.getElem?_set_ne hv, ih]
        have : (i ∈ v :: vs) ↔ i ∈ vs := by simp [Ne.symm hv]
        simp only [this]
  rw [key, key, hl]
  split
  · rfl
  · rename_i hi; exact h i hi
theorem wipe_wipe (σ : St) (vs : List Nat) : wipe (wipe σ vs) vs = wipe σ vs := by
  apply List.ext_getElem?
  intro i
  have key : ∀ (τ : St) (vs : List Nat), (wipe τ vs)[i]? = if i ∈ vs then (if i < τ.length then some none else none) else τ[i]? := by
    intro τ vs
    induction vs with
    | nil => simp [wipe]
    | cons v vs ih =>
      unfold wipe
      by_cases hv : v = i
      · subst hv
        rw [List.getElem?_set]
        simp [wipe_length]
      · rw [List.getElem?_set_ne hv, ih]
        have : (i ∈ v :: vs) ↔ i ∈ vs := by simp [Ne.symm hv]
        simp only [this]
  rw [key, key, wipe_length]
  split <;> rfl
theorem PTs.imp {ifs : List Expr} {t t' : TT} (h : PTs X ifs t) (k : ∀ σ H Q, HLen H → t' σ H Q → t σ H (fun v H' => HLen H' → Q v H')) : PTs X ifs t' := by
  refine ⟨fun pins s σ H Q I q => ?_⟩
  refine thn (h.run pins s σ H _ I (k σ H Q (HLen.of I.hok) q)) fun u s' ⟨H', I', z⟩ => ⟨H', I', z (HLen.of I'.hok)⟩
theorem dts_nil : PTs X [] (tT T W tTrue) := by
  refine PTs.imp pts_nil fun σ H Q l ⟨G0, H0, G, e, r, s, hf, hp⟩ => ?_
  cases hf
  exact fun l' => hp G H (Good.refl s.same) l'
theorem dts_one {c : Expr} {f : En → R Bool} (h : PT X c (tT T W f)) : PTs X [c] (tT T W f) := pts_one h
end
abbrev W0 : WX := fun _ _ _ _ => False
section
variable {T : Ct} {W : WX} {X : Cx} {own : List Nat} {fi : FI} {g : FG} {cond : En → R Bool} {elt : En → R D}
/-- the heart: the new list at D -/
theorem lcCore {σ : St} {H : Hp} {Q : VK} {G0 H0 G : Hp} {e : En} {rr : Rs D} {kk : D → Prop} (s : StOk T G0 H0 G H σ e) (hf : eComp own fi g cond elt e = some rr) (hp : PV T W G H σ kk rr)
    (hq : ∀ d p G' H', kk d → Good G H G' H' → HLen H' → H p = none → G' p = none → Own T G' H' p d → (∀ dx fs C, H' p = some (.ins C dx fs) → H dx = none) → Q (.ref p) H') :
    tLc (tIB T W fi) (tGo T own g) (tT T W0 cond) (tE T W0 elt) own σ H Q := by
  unfold eComp at hf
  cases q : fi e with
  | none => rw [q] at hf; cases hf
  | some m =>
    rw [q] at hf
    cases m with
    | err x =>
      cases hf
      exact ⟨G0, H0, G, e, _, s, q, hp⟩
    | ok ds =>
      simp only [bR_ok] at hf
      cases q2 : compL own g cond elt e ds with
      | none => rw [q2] at hf; cases hf
      | some ys =>
        rw [q2] at hf
        cases hf
        refine ⟨G0, H0, G, e, _, s, q, fun J G1 H1 g1 l1 io D hD => ?_⟩
        have hD0 : H D = none := g1.hh.free hD
        have hG1 : G1 D = none := g1.sub.free hD
        refine ⟨fun i m H' => m = ds.length - i ∧ i ≤ ds.length ∧ HLen H' ∧ ∃ G' acc zs rest, Good G1 H1 G' H' ∧ G' D = none ∧ H' D = some (.lst acc) ∧ RepL T G' zs acc ∧ zs.length ≤ i ∧ compL own g cond elt e (ds.drop i) = some rest ∧ zs ++ rest = ys,
          ⟨ds.length, by simp, Nat.zero_le _, hlen_upd l1 (Nat.zero_le _), G1, [], [], ys, Good.newO g1.sub hD, hG1, upd_same, .nil, Nat.le_refl _, by simpa using q2, rfl⟩, ?_⟩
        rintro i m H2 ⟨rfl, hi, l2, G2, acc, zs, rest, g2, hG2, hD2, rz, hzi, hc, hy⟩
        obtain ⟨io1, io2⟩ := io.2 G2 H2 g2 g2.sub l2
        by_cases hlt : i < ds.length
        · have hd : ds[i]? = some ds[i] := List.getElem?_eq_getElem hlt
          obtain ⟨go, yl⟩ := io2 i _ hd
          rw [List.drop_eq_getElem_cons hlt] at hc
          unfold compL at hc
          cases q3 : g ds[i] (wipeE e own) with
          | none => rw [q3] at hc; cases hc
          | some e1 =>
            simp only [q3] at hc
            cases q4 : cond e1 with
            | none => simp only [q4] at hc; cases hc
            | some mb =>
              cases mb with
              | err x => simp only [q4] at hc; cases hc
              | ok b =>
                simp only [q4] at hc
                refine .inr ⟨go, fun H' => HLen H' ∧ ∃ G' acc zs rest, Good G1 H1 G' H' ∧ G' D = none ∧ H' D = some (.lst acc) ∧ RepL T G' zs acc ∧ zs.length ≤ i + 1 ∧ compL own g cond elt e (ds.drop (i + 1)) = some rest ∧ zs ++ rest = ys,
                  fun H' ⟨lx, z⟩ => ⟨ds.length - (i + 1), by omega, rfl, hlt, lx, z⟩, fun x H' hx => ?_⟩
                obtain ⟨G3, g3, l3, r3⟩ := yl x H' hx
                have s3 := ((s.ext g1).ext g2).ext g3
                have g13 := g2.trans g3
                have keepD : ∀ {Ga Ha : Hp}, Good G2 H2 Ga Ha → Ga D = none ∧ Ha D = some (.lst acc) := fun ga => ⟨ga.nw D (by rw [hD2]; simp) hG2, ga.hh _ _ hD2⟩
                refine ⟨G0, H0, G3, _, ds[i], e1, s3.wipe own, l3, r3, q3, fun σ4 G4 H4 g4 s4 l4 k4 => ⟨?_, G0, H0, G4, e1, _, s4, q4, fun G5 H5 g5 l5 => ?_⟩⟩
                · rw [wipe_same k4.1 k4.2, wipe_wipe]
                · have g25 := (g3.trans g4).trans g5
                  obtain ⟨hG5, hD5⟩ := keepD g25
                  cases b with
                  | false =>
                    dsimp only
                    rw [if_neg Bool.false_ne_true]
                    exact ⟨l5, G5, acc, zs, rest, g2.trans g25, hG5, hD5, rz.mono g25.gg, Nat.le_succ_of_le hzi, hc, hy⟩
                  | true =>
                    dsimp only
                    rw [if_pos rfl]
                    cases q5 : elt e1 with
                    | none => simp only [q5] at hc; cases hc
                    | some me =>
                      cases me with
                      | err x => simp only [q5] at hc; cases hc
                      | ok y =>
                        simp only [q5] at hc
                        cases q6 : compL own g cond elt e (ds.drop (i + 1)) with
                        | none => rw [q6] at hc; cases hc
                        | some rest' =>
                          rw [q6] at hc
                          cases hc
                          refine ⟨G0, H0, G5, e1, _, s4.ext g5, q5, fun v G6 H6 g6 l6 r6 => ?_⟩
                          have g26 := g25.trans g6
                          obtain ⟨hG6, hD6⟩ := keepD g26
                          have hlen : acc.length < sizeLine := by
                            have := rz.length
                            have := io.1
                            omega
                          refine ⟨acc, hD6, hlen, hlen_upd l6 (by show (acc ++ [v]).length ≤ _; rw [List.length_append, List.length_singleton]; omega), G6, acc ++ [v], zs ++ [y], rest', ?_, hG6, upd_same, (rz.mono g26.gg).append (.cons r6 .nil), by rw [List.length_append, List.length_singleton]; omega, rfl, by rw [List.append_assoc]; exact hy⟩
                          have g16 := g2.trans g26
                          exact ⟨fun a u h => by
                              have : a ≠ D := fun z => by rw [z, hG6] at h; cases h
                              rw [upd_ne this]; exact g16.sub a u h, g16.gg, fun a u h => by
                              have : a ≠ D := fun z => by rw [z, hD] at h; cases h
                              rw [upd_ne this]; exact g16.hh a u h, g16.nw⟩
        · have ei : i = ds.length := by omega
          subst ei
          rw [List.drop_length] at hc
          cases hc
          rw [List.append_nil] at hy
          subst hy
          exact .inl ⟨io1, hq _ D G2 H2 hp (g1.trans g2) l2 hD0 hG2 ⟨acc, hD2, rz⟩ fun dx fs C z => by rw [hD2] at z; cases z⟩
variable {tg iter eltE : Expr} {ifs : List Expr} {scope : Scope} {ow : List (Str × Nat)} {pos spos py : Pos} {i : Nat} {y : Str}
theorem df_comp (hc : X.calm = true) (hN : X.N.Nodup) (hi : PI X tg iter (tIB T W fi)) (bo : BlkOk X.N X.env.scope scope ow)
    (hg : ∀ (s : Shared) (H : Hp) (C : Addr) (cl : List (Str × Addr)) (fp : List Addr), PG (X.blk s H scope (compEnvC scope cl C X.env) fp) tg (tGo T (ow.map (·.2)) g))
    (ht : ∀ (s : Shared) (H : Hp) (C : Addr) (cl : List (Str × Addr)) (fp : List Addr), PTs (X.blk s H scope (compEnvC scope cl C X.env) fp) ifs (tT T W0 cond))
    (he : ∀ (s : Shared) (H : Hp) (C : Addr) (cl : List (Str × Addr)) (fp : List Addr), PE (X.blk s H scope (compEnvC scope cl C X.env) fp) eltE (tE T W0 elt)) (hs : ∀ x, foldedSetIterable iter X.env x = pure x := by intro _; rfl) :
    PE X (.ListComp eltE [⟨tg, iter, ifs, 0⟩] scope pos) (tF T W (eComp (ow.map (·.2)) fi g cond elt)) := by
  refine PE.imp (pe_lc hc hN hi bo hg ht he hs) fun σ H Q l ⟨G0, H0, G, e, r, s, hf, hp⟩ => ?_
  exact lcCore s hf hp fun d p G' H' k g' l' h1 h2 o hx => fun _ => k p G' H' g' l' h1 h2 o hx
/-- y = [..] -/
theorem ds_comp (hc : X.calm = true) (hN : X.N.Nodup) (hy : X.N[i]? = some y) (hyl : X.env.scope.names.lookup y = some .local)
    (hsw : swapsWith (.ListComp eltE [⟨tg, iter, ifs, 0⟩] scope pos) (some (.Name y py)) spos.line X.env = pure true) (hi : PI X tg iter (tIB T W fi)) (bo : BlkOk X.N X.env.scope scope ow)
    (hg : ∀ (s : Shared) (H : Hp) (C : Addr) (cl : List (Str × Addr)) (fp : List Addr), PG (X.blk s H scope (compEnvC scope cl C X.env) fp) tg (tGo T (ow.map (·.2)) g))
    (ht : ∀ (s : Shared) (H : Hp) (C : Addr) (cl : List (Str × Addr)) (fp : List Addr), PTs (X.blk s H scope (compEnvC scope cl C X.env) fp) ifs (tT T W0 cond))
    (he : ∀ (s : Shared) (H : Hp) (C : Addr) (cl : List (Str × Addr)) (fp : List Addr), PE (X.blk s H scope (compEnvC scope cl C X.env) fp) eltE (tE T W0 elt)) (hs : ∀ x, foldedSetIterable iter X.env x = pure x := by intro _; rfl) :
    PS X (.Assign [.Name y py] (.ListComp eltE [⟨tg, iter, ifs, 0⟩] scope pos) spos) (tS T W (sSet i (eComp (ow.map (·.2)) fi g cond elt))) := by
  refine PS.imp (ps_setLc hc hN hy hyl hsw hi bo hg ht he hs) fun D σ H l ⟨G0, H0, G, e, r, s, hf, hp⟩ => ?_
  unfold sSet at hf
  cases q : eComp (ow.map (·.2)) fi g cond elt e with
  | none => rw [q] at hf; cases hf
  | some m =>
    rw [q] at hf
    cases m with
    | err x => cases hf; exact lcCore (kk := fun _ => False) s q (EOut.of_er s hp) fun d p G' H' k => k.elim
    | ok d =>
      cases hf
      refine lcCore (kk := fun d' => d' = d) s q rfl fun d' p G' H' k g' l' h1 h2 o hx => ?_
      subst k
      obtain ⟨G2, g2, r2⟩ := rep_join g' h1 h2 o hx
      exact hp _ G2 H' g2.gg ((s.ext g2).set_fz r2) l'
theorem ds_compO (hc : X.calm = true) (hN : X.N.Nodup) (hy : X.N[i]? = some y) (hyl : X.env.scope.names.lookup y = some .local)
    (hsw : swapsWith (.ListComp eltE [⟨tg, iter, ifs, 0⟩] scope pos) (some (.Name y py)) spos.line X.env = pure true) (hi : PI X tg iter (tIB T W fi)) (bo : BlkOk X.N X.env.scope scope ow)
    (hg : ∀ (s : Shared) (H : Hp) (C : Addr) (cl : List (Str × Addr)) (fp : List Addr), PG (X.blk s H scope (compEnvC scope cl C X.env) fp) tg (tGo T (ow.map (·.2)) g))
    (ht : ∀ (s : Shared) (H : Hp) (C : Addr) (cl : List (Str × Addr)) (fp : List Addr), PTs (X.blk s H scope (compEnvC scope cl C X.env) fp) ifs (tT T W0 cond))
    (he : ∀ (s : Shared) (H : Hp) (C : Addr) (cl : List (Str × Addr)) (fp : List Addr), PE (X.blk s H scope (compEnvC scope cl C X.env) fp) eltE (tE T W0 elt)) (hs : ∀ x, foldedSetIterable iter X.env x = pure x := by intro _; rfl) :
    PS X (.Assign [.Name y py] (.ListComp eltE [⟨tg, iter, ifs, 0⟩] scope pos) spos) (tS T W (sSetO i (eComp (ow.map (·.2)) fi g cond elt))) := by
  refine PS.imp (ps_setLc hc hN hy hyl hsw hi bo hg ht he hs) fun D σ H l ⟨G0, H0, G, e, r, s, hf, hp⟩ => ?_
  unfold sSetO at hf
  cases q : eComp (ow.map (·.2)) fi g cond elt e with
  | none => rw [q] at hf; cases hf
  | some m =>
    rw [q] at hf
    cases m with
    | err x => cases hf; exact lcCore (kk := fun _ => False) s q (EOut.of_er s hp) fun d p G' H' k => k.elim
    | ok d =>
      cases hf
      refine lcCore (kk := fun d' => d' = d) s q rfl fun d' p G' H' k g' l' h1 h2 o hx => ?_
      subst k
      exact hp _ G' H' g'.gg ((s.ext g').set_ow (s.gd.hh.free h1) h2 o (fun dx fs C z => s.gd.hh.free (hx dx fs C z)) (ow_new (G1 := G') (H1 := H') s h1)) l'
end
end DL

namespace DL
open PySem PySem.Spec L2
open PyProof.Rows hiding St
open PySem.W (alike alikeAll dataLt EachIs AllAlike Sortable dataLe)

/-! ### calls of the text's own defs -/
def spD (T : Ct) (n : Nat) (C : List D → R D) : Sp := fun vs H Q E => ∃ G ds r, Same G H ∧ ds.length = n ∧ RepL T G ds vs ∧ C ds = some r ∧ (match r with
  | .ok d => ∀ v G' H', Good G H G' H' → HLen H' → Rep T G' d v → Q v H'
  | .err x => ∀ d G' H', Good G H G' H' → ExOk T G' H' x d → E (.ref (T.ca x.c)) d H')
/-- .. that hands back a new cell -/
def spF (T : Ct) (n : Nat) (C : List D → R D) : Sp := fun vs H Q E => ∃ G ds r, Same G H ∧ ds.length = n ∧ RepL T G ds vs ∧ C ds = some r ∧ (match r with
  | .ok d => ∀ p G' H', Good G H G' H' → HLen H' → H p = none → G' p = none → Own T G' H' p d → (∀ dx fs C, H' p = some (.ins C dx fs) → H dx = none) → Q (.ref p) H'
  | .err x => ∀ d G' H', Good G H G' H' → ExOk T G' H' x d → E (.ref (T.ca x.c)) d H')
def toR : Option Fl → R D
  | some (.nx _) => ok .non
  | some (.rt d) => ok d
  | some (.rf d) => ok d
  | some (.er x _) => some (.err x)
  | _ => none
def toRF : Option Fl → R D
  | some (.rf d) => ok d
  | some (.er x _) => some (.err x)
  | _ => none
/-- the slots at a def's entry: n names, the arguments first -/
def startE (n : Nat) (ds : List D) : En := ds.map .fz ++ List.replicate (n - ds.length) .un
structure Cal (Pr : Program) (w : World) (K : PySem.W.Frag) (mg : Str → Option Value) (base : Heap) (x : Str) (k n : Nat) (sp : Sp) : Prop where
  ex : ∃ f fd, ∃ ps : List Str, ps.length = n ∧ FnOk Pr w K mg base (L2.CX Pr w) k f fd ps sp ∧ mg x = some (.ref f) ∧ PySem.W.keepIn K (.ref f) = true ∧ Binds K fd ps []
inductive LenA : Nat → (En → R (List D)) → Prop
  | nil : LenA 0 aN
  | cons {n : Nat} {f : En → R D} {r : En → R (List D)} : LenA n r → LenA (n + 1) (aC f r)
theorem LenA.len {n : Nat} {f : En → R (List D)} (h : LenA n f) : ∀ {e : En} {ds : List D}, f e = ok ds → ds.length = n := by
  induction h with
  | nil => intro e ds h; cases h; rfl
  | @cons n f r _ ih =>
    intro e ds h
    unfold aC at h
    cases q : f e with
    | none => rw [q] at h; cases h
    | some m => cases m with
      | err x => rw [q] at h; cases h
      | ok d =>
        rw [q] at h
        cases q2 : r e with
        | none => simp only [bR_ok, q2] at h; cases h
        | some m2 => cases m2 with
          | err x => simp only [bR_ok, q2] at h; cases h
          | ok ds' =>
            simp only [bR_ok, q2] at h
            cases h
            simp [ih q2]
def eCall (C : List D → R D) (fs : En → R (List D)) : En → R D := fun e => bR (fs e) C
section
variable {T : Ct} {W : WX} {X : Cx} {x : Str} {k n : Nat} {C : List D → R D} {fs : En → R (List D)} {a : Expr} {es : List Expr} {p pos : Pos}
theorem seqA' {β : Type} {fa : En → R (List D)} {k : List D → R β} {r : Rs β} {G0 H0 G H : Hp} {σ : St} {e : En} {kk : β → Prop} {NX : List V → Hp → Prop} (s : StOk T G0 H0 G H σ e) (h : bR (fa e) k = some r) (hp : PV T W G H σ kk r)
    (next : ∀ x v G1 H1, fa e = ok x → Good G H G1 H1 → HLen H1 → StOk T G0 H0 G1 H1 σ e → RepL T G1 x v → k x = some r → NX v H1) : tAs T W fa σ H NX := by
  cases q : fa e with
  | none => rw [q] at h; cases h
  | some m =>
    rw [q] at h
    cases m with
    | ok a => exact ⟨G0, H0, G, e, _, s, q, fun v G' H' g l rp => next a v G' H' q g l (s.ext g) rp h⟩
    | err x =>
      cases h
      exact ⟨G0, H0, G, e, _, s, q, hp⟩
theorem de_call (c : Cal X.prog X.w X.K X.mg X.base x k n (spD T n C)) (hr : Room k X.A) (tk : Takes X W) (hg : Gl X x) (ha : PA X (a :: es) (tAs T W fs)) (hn : LenA n fs) (hdb : (x == ("__debug__" : Str)) = false := by decide)
    (he : starEach (a :: es) X.env = (false, eval a X.env) :: starEach es X.env := by rfl) (hpl : (backTo pos (starEach es X.env)).any (·.1) = false := by rfl) : PE X (.Call (.Name x p) (a :: es) [] pos) (tE T W (eCall C fs)) := by
  obtain ⟨f, fd, ps, hps, F, hm, hk, hb⟩ := c.ex
  refine PE.imp (pe_callS F hr hg hm hk hb (fun σ => passAt tk σ) ha hdb he hpl) fun σ H Q l ⟨G0, H0, G, e, r, s, hf, hp⟩ => ?_
  refine seqA' s hf hp fun ds vs G1 H1 q g1 l1 s1 rx hk => ⟨G1, ds, r, s1.same, hn.len q, rx, hk, ?_⟩
  cases r with
  | ok d => exact fun v G' H' g l' rp => fun _ => hp v G' H' (g1.trans g) l' rp
  | err y => exact fun d G' H' g ex => hp d G' H' (g1.trans g) ex
theorem df_call (c : Cal X.prog X.w X.K X.mg X.base x k n (spF T n C)) (hr : Room k X.A) (tk : Takes X W) (hg : Gl X x) (ha : PA X (a :: es) (tAs T W fs)) (hn : LenA n fs) (hdb : (x == ("__debug__" : Str)) = false := by decide)
    (he : starEach (a :: es) X.env = (false, eval a X.env) :: starEach es X.env := by rfl) (hpl : (backTo pos (starEach es X.env)).any (·.1) = false := by rfl) : PE X (.Call (.Name x p) (a :: es) [] pos) (tF T W (eCall C fs)) := by
  obtain ⟨f, fd, ps, hps, F, hm, hk, hb⟩ := c.ex
  refine PE.imp (pe_callS F hr hg hm hk hb (fun σ => passAt tk σ) ha hdb he hpl) fun σ H Q l ⟨G0, H0, G, e, r, s, hf, hp⟩ => ?_
  refine seqA' s hf hp fun ds vs G1 H1 q g1 l1 s1 rx hk => ⟨G1, ds, r, s1.same, hn.len q, rx, hk, ?_⟩
  cases r with
  | ok d => exact fun p G' H' g l' h1 h2 o hx => fun _ => hp p G' H' (g1.trans g) l' (g1.hh.free h1) h2 o fun dx fs C z => g1.hh.free (hx dx fs C z)
  | err y => exact fun d G' H' g ex => hp d G' H' (g1.trans g) ex
end

section
variable {T : Ct} {Pr : Program} {w : World} {K : PySem.W.Frag} {mg : Str → Option Value} {base : Heap}
theorem start_ok {G H : Hp} {N : List Str} {ds : List D} {vs : List V} (s : Same G H) (r : RepL T G ds vs) : StOk T G H G H (L2.start N vs) (startE N.length ds) := by
  have hl := r.length
  refine ⟨Good.refl s, ?_, fun i t h => ?_, fun i j a b p h1 => ?_⟩
  · unfold L2.start startE
    simp [hl]
  · unfold startE at h
    unfold L2.start
    by_cases hi : i < ds.length
    · rw [List.getElem?_append_left (by simpa using hi), List.getElem?_map] at h
      obtain ⟨v, h2, h3⟩ := r.get (List.getElem?_eq_getElem hi)
      rw [List.getElem?_eq_getElem hi] at h
      cases h
      refine ⟨v, ?_, h3⟩
      rw [List.getElem?_append_left (by simp; omega), List.getElem?_map, h2]
      rfl
    · rw [List.getElem?_append_right (by simpa using hi), List.getElem?_replicate] at h
      split at h
      · cases h; trivial
      · cases h
  · unfold startE at h1
    by_cases hi : i < ds.length
    · rw [List.getElem?_append_left (by simpa using hi), List.getElem?_map, List.getElem?_eq_getElem hi] at h1; cases h1
    · rw [List.getElem?_append_right (by simpa using hi), List.getElem?_replicate] at h1
      split at h1 <;> cases h1
abbrev WF (E : XK) : WX := fun cls d _ H => E cls d H
/-- a def, by its body's meaning -/
theorem fn_D {x qual : Str} {st : Stmt} {f : Addr} {fd : FuncData} {N ps : List Str} {k : Nat} {b : FS} (F : Fun K x qual st f fd) (S : FnScope N ps (defScope st))
    (hb : ∀ (cdv : Value) (A : Around) (outer : List PySem.Env) (s : Shared) (H : Hp) (E : XK), Room k (A.deeper (envOfC qual (defScope st) s.heap.objs.size f cdv)) →
      PSs (cxOf (L2.CX Pr w) Pr w K mg base N qual (defScope st) f cdv A outer s H E) (defBody st) (tS T (WF E) b)) :
    FnOk Pr w K mg base (L2.CX Pr w) (k + 1) f fd ps (spD T ps.length fun ds => toR (b (startE N.length ds))) := by
  refine F.okX S (fun vs H Q E ⟨G, ds, r, _, h, rl, _⟩ => by rw [← rl.length, h]) fun cdv A outer s H vs Q E hr ⟨G, ds, r, sm, hl, rx, hC, post⟩ => ⟨_, hb cdv A outer s H E hr, ?_⟩
  dsimp only at hC
  cases q : b (startE N.length ds) with
  | none => rw [q] at hC; cases hC
  | some fl =>
    rw [q] at hC
    refine ⟨G, H, G, _, fl, start_ok sm rx, q, ?_⟩
    cases fl with
    | nx e' => cases hC; exact fun σ G' H' _ s' l' => post .non G' H' s'.gd l' rep_non
    | bk _ => cases hC
    | ct _ => cases hC
    | rt d => cases hC; exact fun v G' H' g l' rp => post v G' H' g l' rp
    | rf d =>
      cases hC
      exact fun p G' H' g l' h1 h2 o hx => let ⟨G2, g2, r2⟩ := rep_join g h1 h2 o hx; post _ G2 H' g2 l' r2
    | er y e' => cases hC; exact fun σ d G' H' _ s' ex => post d G' H' s'.gd ex
theorem fn_F {x qual : Str} {st : Stmt} {f : Addr} {fd : FuncData} {N ps : List Str} {k : Nat} {b : FS} (F : Fun K x qual st f fd) (S : FnScope N ps (defScope st))
    (hb : ∀ (cdv : Value) (A : Around) (outer : List PySem.Env) (s : Shared) (H : Hp) (E : XK), Room k (A.deeper (envOfC qual (defScope st) s.heap.objs.size f cdv)) →
      PSs (cxOf (L2.CX Pr w) Pr w K mg base N qual (defScope st) f cdv A outer s H E) (defBody st) (tS T (WF E) b)) :
    FnOk Pr w K mg base (L2.CX Pr w) (k + 1) f fd ps (spF T ps.length fun ds => toRF (b (startE N.length ds))) := by
  refine F.okX S (fun vs H Q E ⟨G, ds, r, _, h, rl, _⟩ => by rw [← rl.length, h]) fun cdv A outer s H vs Q E hr ⟨G, ds, r, sm, hl, rx, hC, post⟩ => ⟨_, hb cdv A outer s H E hr, ?_⟩
  dsimp only at hC
  cases q : b (startE N.length ds) with
  | none => rw [q] at hC; cases hC
  | some fl =>
    rw [q] at hC
    refine ⟨G, H, G, _, fl, start_ok sm rx, q, ?_⟩
    cases fl with
    | nx e' => cases hC
    | bk _ => cases hC
    | ct _ => cases hC
    | rt d => cases hC
    | rf d => cases hC; exact fun p G' H' g l' h1 h2 o hx => post p G' H' g l' h1 h2 o hx
    | er y e' => cases hC; exact fun σ d G' H' _ s' ex => post d G' H' s'.gd ex
end

/-! ### calls of what is built in -/
structure CalD (T : Ct) (X : Cx) (g : D → R D) (r : List V → Hp → VK → Prop) : Prop where
  noE : ∀ x z, g x ≠ some (.err z)
  run : ∀ (x d : D) (v : V) (G H : Hp) (Q : VK), HLen H → Same G H → RepB T G H x v → g x = ok d → (∀ w G' H', Good G H G' H' → Rep T G' d w → Q w H') → r [v] H Q
structure CalF (T : Ct) (X : Cx) (g : D → R D) (r : List V → Hp → VK → Prop) : Prop where
  noE : ∀ x z, g x ≠ some (.err z)
  run : ∀ (x d : D) (v : V) (G H : Hp) (Q : VK), HLen H → Same G H → RepB T G H x v → g x = ok d →
    (∀ p G' H', Good G H G' H' → H p = none → G' p = none → Own T G' H' p d → (∀ dx fs C, H' p = some (.ins C dx fs) → H dx = none) → Q (.ref p) H') → r [v] H Q
section
variable {T : Ct} {W : WX} {X : Cx} {x : Str} {g : D → R D} {r : List V → Hp → VK → Prop} {fa : En → R D} {a : Expr} {p pos : Pos} {t : TE}
theorem cal1E (hd : CalD T X g r) (h : PE X a t) (ht : t = tCB r (tCons (tB T W fa) tNil)) : PE X a (tE T W (e1 g fa)) := by
  subst ht
  refine PE.imp h fun σ H Q l ⟨G0, H0, G, e, r, s, hf, hp⟩ => ?_
  refine seqB s hf hp fun x v G1 H1 g1 l1 s1 rx hk => ?_
  cases r with
  | err z => exact absurd hk (hd.noE x z)
  | ok d => exact hd.run x d v G1 H1 _ l1 s1.same rx hk fun w G' H' g' rw => fun l' => hp w G' H' (g1.trans g') l' rw
theorem cal1F (hd : CalF T X g r) (h : PE X a t) (ht : t = tCB r (tCons (tB T W fa) tNil)) : PE X a (tF T W (e1 g fa)) := by
  subst ht
  refine PE.imp h fun σ H Q l ⟨G0, H0, G, e, r, s, hf, hp⟩ => ?_
  refine seqB s hf hp fun x v G1 H1 g1 l1 s1 rx hk => ?_
  cases r with
  | err z => exact absurd hk (hd.noE x z)
  | ok d => exact hd.run x d v G1 H1 _ l1 s1.same rx hk fun p G' H' g' h1 h2 o hx => fun l' => hp p G' H' (g1.trans g') l' (g1.hh.free h1) h2 o fun dx fs C z => g1.hh.free (hx dx fs C z)
theorem de_b1 {id : String} (hd : CalD T X g r) (hc : CallR X (.builtin id) r) (hg : Gl X x) (hm : X.mg x = none) (hv : bootBuiltins x = some (.builtin id)) (ha : PE X a (tB T W fa)) (hn : x ≠ "__name__" := by decide) (hdb : (x == ("__debug__" : Str)) = false := by decide)
    (he : starEach (a :: []) X.env = (false, eval a X.env) :: starEach [] X.env := by rfl) : PE X (.Call (.Name x p) [a] [] pos) (tE T W (e1 g fa)) := cal1E hd (pe_callB hc hg hm hv (pa_cons ha pa_nil he) hn hdb he rfl) rfl
theorem df_b1 {id : String} (hd : CalF T X g r) (hc : CallR X (.builtin id) r) (hg : Gl X x) (hm : X.mg x = none) (hv : bootBuiltins x = some (.builtin id)) (ha : PE X a (tB T W fa)) (hn : x ≠ "__name__" := by decide) (hdb : (x == ("__debug__" : Str)) = false := by decide)
    (he : starEach (a :: []) X.env = (false, eval a X.env) :: starEach [] X.env := by rfl) : PE X (.Call (.Name x p) [a] [] pos) (tF T W (e1 g fa)) := cal1F hd (pe_callB hc hg hm hv (pa_cons ha pa_nil he) hn hdb he rfl) rfl
theorem de_t1 {ty : String} (hd : CalD T X g r) (hc : CallR X (.type ty) r) (hg : Gl X x) (hm : X.mg x = none) (hv : bootBuiltins x = some (.type ty)) (ha : PE X a (tB T W fa)) (hn : x ≠ "__name__" := by decide) (hdb : (x == ("__debug__" : Str)) = false := by decide)
    (he : starEach (a :: []) X.env = (false, eval a X.env) :: starEach [] X.env := by rfl) : PE X (.Call (.Name x p) [a] [] pos) (tE T W (e1 g fa)) := cal1E hd (pe_callTy hc hg hm hv (pa_cons ha pa_nil he) hn hdb he rfl) rfl
theorem df_t1 {ty : String} (hd : CalF T X g r) (hc : CallR X (.type ty) r) (hg : Gl X x) (hm : X.mg x = none) (hv : bootBuiltins x = some (.type ty)) (ha : PE X a (tB T W fa)) (hn : x ≠ "__name__" := by decide) (hdb : (x == ("__debug__" : Str)) = false := by decide)
    (he : starEach (a :: []) X.env = (false, eval a X.env) :: starEach [] X.env := by rfl) : PE X (.Call (.Name x p) [a] [] pos) (tF T W (e1 g fa)) := cal1F hd (pe_callTy hc hg hm hv (pa_cons ha pa_nil he) hn hdb he rfl) rfl
theorem noE1 {g : D → R D} (h : ∀ x, g x = none ∨ ∃ d, g x = ok d) : ∀ x z, g x ≠ some (.err z) := fun x z e => by
  rcases h x with h | ⟨d, h⟩ <;> rw [e] at h <;> cases h

/-! len -/
def gLen : D → R D
  | .lst xs => ok (.int xs.length)
  | .tup xs => ok (.int xs.length)
  | .str z => if z.length ≤ 16777216 then ok (.int z.length) else none
  | .scr ns => ok (.int ns.length)
  | _ => none
theorem cd_len (hK : T.K = X.K) : CalD T X gLen (fun xs H Q => ∃ x n, xs = [x] ∧ LenV X.K x H n ∧ Q (.int n) H) where
  noE := noE1 fun x => by unfold gLen; split <;> first | exact if_ne | exact .inr ⟨_, rfl⟩ | exact .inl rfl
  run := by
    intro x d v G H Q l s rx h q
    unfold gLen at h
    split at h
    · obtain rfl := ok_inj h
      obtain ⟨p, vs, rfl, h2, r2⟩ := rb_lst s rx
      exact ⟨_, _, rfl, .inl ⟨vs, .of h2, rfl⟩, by rw [← r2.length]; exact q _ G H (Good.refl s) rep_int⟩
    · obtain rfl := ok_inj h
      obtain ⟨p, vs, rfl, h2, r2⟩ := rb_tup s rx
      rw [hK] at h2
      exact ⟨_, _, rfl, .inr ⟨vs, sqT_mono s h2, rfl⟩, by rw [← r2.length]; exact q _ G H (Good.refl s) rep_int⟩
    · obtain ⟨c, rfl⟩ := if_ok h
      obtain ⟨rfl, _⟩ := rb_str rx
      exact ⟨_, _, rfl, ⟨le_line c, rfl⟩, q _ G H (Good.refl s) rep_int⟩
    · obtain rfl := ok_inj h
      obtain ⟨p, rfl, h2⟩ := rb_scr rx
      rw [hK] at h2
      exact ⟨_, _, rfl, .inl ⟨_, s.seq h2, rfl⟩, by rw [List.length_map]; exact q _ G H (Good.refl s) rep_int⟩
    · cases h
/-! int, str -/
def gInt : D → R D
  | .int i => ok (.int i)
  | .bl b => ok (.int (if b then 1 else 0))
  | _ => none
theorem cd_int : CalD T X gInt (fun xs H Q => (∃ i, xs = [.int i] ∧ Q (.int i) H) ∨ ∃ k, xs = [.bl k] ∧ Q (.int (if k then 1 else 0)) H) where
  noE := noE1 fun x => by unfold gInt; split <;> first | exact .inr ⟨_, rfl⟩ | exact .inl rfl
  run := by
    intro x d v G H Q l s rx h q
    unfold gInt at h
    split at h
    · obtain rfl := ok_inj h
      obtain rfl := rb_int rx
      exact .inl ⟨_, rfl, q _ G H (Good.refl s) rep_int⟩
    · obtain rfl := ok_inj h
      obtain rfl := rb_bl rx
      exact .inr ⟨_, rfl, q _ G H (Good.refl s) rep_int⟩
    · cases h
def gStr : D → R D
  | .int i => if i.natAbs < 1000000000000 ∧ PyData.strOk (toString i : String) = true then ok (.str (toString i : String)) else none
  | _ => none
theorem cd_str : CalD T X gStr (fun xs H Q => ∃ i, xs = [.int i] ∧ i.natAbs.log2 < 1920 ∧ Q (.str (toString i : String)) H) where
  noE := noE1 fun x => by unfold gStr; split <;> first | exact if_ne | exact .inl rfl
  run := by
    intro x d v G H Q l s rx h q
    unfold gStr at h
    split at h
    · obtain ⟨⟨c, c2⟩, rfl⟩ := if_ok h
      obtain rfl := rb_int rx
      rename_i i
      refine ⟨_, rfl, ?_, q _ G H (Good.refl s) (rep_str c2)⟩
      by_cases h0 : i.natAbs = 0
      · rw [h0]; decide
      · have : i.natAbs.log2 < 40 := (Nat.log2_lt h0).mpr (by omega)
        omega
    · cases h
/-! list(..), tuple(..) -/
def gList : D → R D
  | .lst xs => ok (.lst xs)
  | .tup xs => ok (.lst xs)
  | _ => none
theorem cf_list (hK : T.K = X.K) : CalF T X gList (fun xs H Q => ∃ p ys, xs = [.ref p] ∧ (SqL X.K H p ys ∨ SqT X.K H p ys) ∧ ∀ l, H l = none → Q (.ref l) (upd H l (.lst ys))) where
  noE := noE1 fun x => by unfold gList; split <;> first | exact .inr ⟨_, rfl⟩ | exact .inl rfl
  run := by
    intro x d v G H Q l s rx h q
    unfold gList at h
    split at h
    · obtain rfl := ok_inj h
      obtain ⟨p, vs, rfl, h2, r2⟩ := rb_lst s rx
      exact ⟨p, vs, rfl, .inl (.of h2), fun p hp => let ⟨g, a, b, c⟩ := fresh_lst s hp r2; q _ _ _ g hp a b c⟩
    · obtain rfl := ok_inj h
      obtain ⟨p, vs, rfl, h2, r2⟩ := rb_tup s rx
      rw [hK] at h2
      exact ⟨p, vs, rfl, .inr (sqT_mono s h2), fun p hp => let ⟨g, a, b, c⟩ := fresh_lst s hp r2; q _ _ _ g hp a b c⟩
    · cases h
def gTuple : D → R D
  | .lst xs => ok (.tup xs)
  | .tup xs => ok (.tup xs)
  | _ => none
theorem cd_tuple (hK : T.K = X.K) : CalD T X gTuple (fun xs H Q => ∃ p ys, xs = [.ref p] ∧ ((SqL X.K H p ys ∧ ∀ l, H l = none → Q (.ref l) (upd H l (.tup ys))) ∨ (SqT X.K H p ys ∧ Q (.ref p) H))) where
  noE := noE1 fun x => by unfold gTuple; split <;> first | exact .inr ⟨_, rfl⟩ | exact .inl rfl
  run := by
    intro x d v G H Q l s rx h q
    unfold gTuple at h
    split at h
    · obtain rfl := ok_inj h
      obtain ⟨p, vs, rfl, h2, r2⟩ := rb_lst s rx
      exact ⟨p, vs, rfl, .inl ⟨.of h2, fun p hp => let ⟨g, r⟩ := new_tup s hp r2; q _ _ _ g r⟩⟩
    · obtain rfl := ok_inj h
      have rt := rb_rep_tup rx
      obtain ⟨p, vs, rfl, h2, r2⟩ := rb_tup s rx
      rw [hK] at h2
      exact ⟨p, vs, rfl, .inr ⟨sqT_mono s h2, q _ G H (Good.refl s) rt⟩⟩
    · cases h
/-! sum, max, min, any, all -/
def intsOf : List D → Option (List Int)
  | [] => some []
  | .int i :: ds => (intsOf ds).map (i :: ·)
  | _ => none
def blsOf : List D → Option (List Bool)
  | [] => some []
  | .bl i :: ds => (blsOf ds).map (i :: ·)
  | _ => none
theorem ints_of {G : Hp} : ∀ {ds : List D} {vs : List V} {ns : List Int}, intsOf ds = some ns → RepL T G ds vs → vs = ns.map V.int
  | [], vs, ns, h, r => by cases h; simp only [RepL] at r; exact r
  | d :: ds, vs, ns, h, r => by
    simp only [RepL] at r
    obtain ⟨v, rr, rfl, h1, h2⟩ := r
    cases d with
    | int i =>
      simp only [intsOf] at h
      cases q : intsOf ds with
      | none => rw [q] at h; cases h
      | some ms =>
        rw [q] at h; cases h
        rw [ints_of q h2, show v = V.int i by simpa only [Rep] using h1]; rfl
    | _ => simp only [intsOf] at h; cases h
theorem bls_of {G : Hp} : ∀ {ds : List D} {vs : List V} {ns : List Bool}, blsOf ds = some ns → RepL T G ds vs → vs = ns.map V.bl
  | [], vs, ns, h, r => by cases h; simp only [RepL] at r; exact r
  | d :: ds, vs, ns, h, r => by
    simp only [RepL] at r
    obtain ⟨v, rr, rfl, h1, h2⟩ := r
    cases d with
    | bl i =>
      simp only [blsOf] at h
      cases q : blsOf ds with
      | none => rw [q] at h; cases h
      | some ms =>
        rw [q] at h; cases h
        rw [bls_of q h2, show v = V.bl i by simpa only [Rep] using h1]; rfl
    | _ => simp only [blsOf] at h; cases h
def gSum : D → R D
  | .lst xs => (intsOf xs).elim none fun ns => ok (.int ns.sum)
  | _ => none
def gAny : D → R D
  | .lst xs => (blsOf xs).elim none fun bs => ok (.bl (bs.any id))
  | _ => none
def gAll : D → R D
  | .lst xs => (blsOf xs).elim none fun bs => ok (.bl (bs.all id))
  | _ => none
def maxL : List Int → Option Int
  | [] => none
  | n :: ns => some (ns.foldl max n)
def minL : List Int → Option Int
  | [] => none
  | n :: ns => some (ns.foldl min n)
def gMax : D → R D
  | .lst xs => ((intsOf xs).bind maxL).elim none fun n => ok (.int n)
  | _ => none
def gMin : D → R D
  | .lst xs => ((intsOf xs).bind minL).elim none fun n => ok (.int n)
  | _ => none
theorem noE_el {α : Type} {o : Option α} {f : α → D} : (o.elim none fun a => ok (f a) : R D) = none ∨ ∃ d, (o.elim none fun a => ok (f a)) = ok d := by
  cases o with
  | none => exact .inl rfl
  | some a => exact .inr ⟨_, rfl⟩
theorem cd_sum : CalD T X gSum (rSum X.K) where
  noE := noE1 fun x => by unfold gSum; split <;> first | exact noE_el | exact .inl rfl
  run := by
    intro x d v G H Q l s rx h q
    unfold gSum at h
    split at h
    · obtain ⟨ns, h1, rfl⟩ := elim_ok h
      obtain ⟨p, vs, rfl, h2, r2⟩ := rb_lst s rx
      rw [ints_of h1 r2] at h2
      exact ⟨p, ns, rfl, .of h2, q _ G H (Good.refl s) rep_int⟩
    · cases h
theorem cd_any : CalD T X gAny (rAny X.K) where
  noE := noE1 fun x => by unfold gAny; split <;> first | exact noE_el | exact .inl rfl
  run := by
    intro x d v G H Q l s rx h q
    unfold gAny at h
    split at h
    · obtain ⟨ns, h1, rfl⟩ := elim_ok h
      obtain ⟨p, vs, rfl, h2, r2⟩ := rb_lst s rx
      rw [bls_of h1 r2] at h2
      exact ⟨p, ns, rfl, .of h2, q _ G H (Good.refl s) rep_bl⟩
    · cases h
theorem cd_all : CalD T X gAll (rAll X.K) where
  noE := noE1 fun x => by unfold gAll; split <;> first | exact noE_el | exact .inl rfl
  run := by
    intro x d v G H Q l s rx h q
    unfold gAll at h
    split at h
    · obtain ⟨ns, h1, rfl⟩ := elim_ok h
      obtain ⟨p, vs, rfl, h2, r2⟩ := rb_lst s rx
      rw [bls_of h1 r2] at h2
      exact ⟨p, ns, rfl, .of h2, q _ G H (Good.refl s) rep_bl⟩
    · cases h
theorem foldl_max : ∀ (ns : List Int) (n m : Int), m ∈ n :: ns → (∀ y ∈ n :: ns, y ≤ m) → ns.foldl max n = m
  | [], n, m, h, k => by simp at h; exact h.symm
  | a :: ns, n, m, h, k => by
    refine foldl_max ns (max n a) m ?_ fun y hy => ?_
    · rcases List.mem_cons.mp h with rfl | h
      · have := k a (by simp); rw [Int.max_eq_left this]; simp
      · rcases List.mem_cons.mp h with rfl | h
        · have := k n (by simp); rw [Int.max_eq_right this]; simp
        · simp [h]
    · rcases List.mem_cons.mp hy with rfl | hy
      · have h1 := k n (by simp); have h2 := k a (by simp); omega
      · exact k y (by simp [hy])
theorem foldl_min : ∀ (ns : List Int) (n m : Int), m ∈ n :: ns → (∀ y ∈ n :: ns, m ≤ y) → ns.foldl min n = m
  | [], n, m, h, k => by simp at h; exact h.symm
  | a :: ns, n, m, h, k => by
    refine foldl_min ns (min n a) m ?_ fun y hy => ?_
    · rcases List.mem_cons.mp h with rfl | h
      · have := k a (by simp); rw [Int.min_eq_left this]; simp
      · rcases List.mem_cons.mp h with rfl | h
        · have := k n (by simp); rw [Int.min_eq_right this]; simp
        · simp [h]
    · rcases List.mem_cons.mp hy with rfl | hy
      · have h1 := k n (by simp); have h2 := k a (by simp); omega
      · exact k y (by simp [hy])
theorem cd_max : CalD T X gMax (rMax X.K) where
  noE := noE1 fun x => by unfold gMax; split <;> first | exact noE_el | exact .inl rfl
  run := by
    intro x d v G H Q l s rx h q
    unfold gMax at h
    split at h
    · obtain ⟨n, h1, rfl⟩ := elim_ok h
      obtain ⟨ns, h3, h4⟩ := Option.bind_eq_some_iff.mp h1
      obtain ⟨p, vs, rfl, h2, r2⟩ := rb_lst s rx
      rw [ints_of h3 r2] at h2
      cases ns with
      | nil => cases h4
      | cons a ns =>
        cases h4
        refine ⟨p, _, rfl, .of h2, by simp, fun m hm hle => ?_⟩
        rw [← foldl_max ns a m hm hle]
        exact q _ G H (Good.refl s) rep_int
    · cases h
theorem cd_min : CalD T X gMin (rMin X.K) where
  noE := noE1 fun x => by unfold gMin; split <;> first | exact noE_el | exact .inl rfl
  run := by
    intro x d v G H Q l s rx h q
    unfold gMin at h
    split at h
    · obtain ⟨n, h1, rfl⟩ := elim_ok h
      obtain ⟨ns, h3, h4⟩ := Option.bind_eq_some_iff.mp h1
      obtain ⟨p, vs, rfl, h2, r2⟩ := rb_lst s rx
      rw [ints_of h3 r2] at h2
      cases ns with
      | nil => cases h4
      | cons a ns =>
        cases h4
        refine ⟨p, _, rfl, .of h2, by simp, fun m hm hle => ?_⟩
        rw [← foldl_min ns a m hm hle]
        exact q _ G H (Good.refl s) rep_int
    · cases h
end
end DL

namespace DL
open PySem PySem.Spec L2
open PyProof.Rows hiding St
open PySem.W (alike alikeAll dataLt EachIs AllAlike Sortable dataLe)

/-! ### isinstance with one built-in class -/
def tyD : D → Option String
  | .non => some "NoneType"
  | .bl _ => some "bool"
  | .int _ => some "int"
  | .str _ => some "str"
  | .lst _ => some "list"
  | .tup _ => some "tuple"
  | .dct _ _ _ => some "dict"
  | _ => none
def kitTab (t : String) : Bool := ["NoneType", "bool", "int", "str", "list", "tuple", "dict"].all fun a => kitB a t == some (a == t || (a == "bool" && t == "int"))
def gIs (t : String) (d : D) : R D := (tyD d).elim none fun a => ok (.bl (a == t || (a == "bool" && t == "int")))
section
variable {T : Ct} {W : WX} {X : Cx} {fa : En → R D} {a b : Expr} {p p2 pos : Pos}
theorem tyD_V {G H : Hp} {d : D} {v : V} {t : String} (s : Same G H) (r : RepB T G H d v) (h : tyD d = some t) : TyX X.K H v (.type t) := by
  cases d with
  | non => cases h; cases rb_non r; exact .base .non
  | bl b => cases h; cases rb_bl r; exact .base (.bl _)
  | int i => cases h; cases rb_int r; exact .base (.int _)
  | str x => cases h; obtain ⟨rfl, _⟩ := rb_str r; exact .base (.str _)
  | lst xs => cases h; obtain ⟨q, vs, rfl, h1, _⟩ := rb_lst s r; exact .base (.lst h1)
  | tup xs => cases h; obtain ⟨q, vs, rfl, h1, _⟩ := rb_tup0 r; exact .base (.tup (s _ _ h1))
  | dct t ks vs =>
    cases h
    rcases r with r | ⟨q, rfl, _, o⟩
    · simp only [Rep] at r
      obtain ⟨q, rfl, ⟨kvs, h1, _⟩ | ⟨kvs, h1, _⟩⟩ := r
      · exact .base (.dK (s _ _ h1))
      · exact .base (.dT (s _ _ h1))
    · rcases o with ⟨kvs, h1, _⟩ | ⟨kvs, h1, _⟩
      · exact .base (.dK h1)
      · exact .base (.dT h1)
  | _ => cases h
theorem kit_tab {t a : String} (ht : kitTab t = true) (d : D) (h : tyD d = some a) : kitB a t = some (a == t || (a == "bool" && t == "int")) := by
  unfold kitTab at ht
  rw [List.all_eq_true] at ht
  have m : a ∈ ["NoneType", "bool", "int", "str", "list", "tuple", "dict"] := by
    cases d <;> first | (cases h; done) | (cases h; simp)
  exact eq_of_beq (ht a m)
theorem de_isT {t : String} (hg : Gl X "isinstance") (hm : X.mg "isinstance" = none) (ht : kitTab t = true) (ha : PE X a (tB T W fa)) (hb : PE X b (tC (.ty t)))
    (he : starEach (a :: [b]) X.env = (false, eval a X.env) :: starEach [b] X.env := by rfl) (he2 : starEach (b :: []) X.env = (false, eval b X.env) :: starEach [] X.env := by rfl) (hpl : (backTo pos (starEach [b] X.env)).any (·.1) = false := by rfl) :
    PE X (.Call (.Name "isinstance" p) [a, b] [] pos) (tE T W (e1 (gIs t) fa)) := by
  refine PE.imp (pe_callB call_isi hg hm rfl (pa_cons ha (pa_cons hb pa_nil he2) he) (by decide) (by decide) he hpl) fun σ H Q l ⟨G0, H0, G, e, r, s, hf, hp⟩ => ?_
  refine seqB s hf hp fun x v G1 H1 g1 l1 s1 rx hk => ?_
  unfold gIs at hk
  cases q : tyD x with
  | none => rw [q] at hk; cases hk
  | some a =>
    rw [q] at hk
    cases hk
    exact ⟨v, .ty t, .type a, .type t, _, rfl, .ty t, tyD_V s1.same rx q, kit_ty (kit_tab ht x q), fun l2 => hp _ G1 H1 g1 l2 rep_bl⟩
theorem pe_tyn {t : String} {x : Str} (hg : Gl X x) (hm : X.mg x = none) (hv : bootBuiltins x = some (.type t)) (hn : x ≠ "__name__" := by decide) (hd : (x == ("__debug__" : Str)) = false := by decide) : PE X (.Name x p) (tC (.ty t)) := pe_bltn hg hm hv rfl hn hd
end

/-! ### sorted -/
def sortD (xs : List D) : List D := xs.mergeSort fun a b => !dlt b a
def isTupC : D → Bool
  | .tup (_ :: _) => true
  | _ => false
def isTup : D → Bool
  | .tup _ => true
  | _ => false
def sortOk (xs : List D) : Bool := decide (xs.length ≤ 16777216) && xs.all (pl 8) && xs.all (fun x => xs.all (dal x)) && (xs.all isTupC || xs.all fun x => !isNon x && !isTup x)
def gSorted : D → R D
  | .lst xs => if sortOk xs = true then ok (.lst (sortD xs)) else none
  | _ => none
def rSortD (K : PySem.W.Frag) : List V → Hp → VK → Prop := fun vs H Q => ∃ (a : Addr) (zs : List (V × D)), vs = [V.ref a] ∧ SqL K H a (zs.map (·.1)) ∧ (∀ z ∈ zs, Dp K H z.1 (P z.2) ∧ (P z.2).depth ≤ 60) ∧ AllAlike (zs.map fun z => P z.2) ∧ Sortable (zs.map fun z => P z.2) ∧
  ∀ p, H p = none → Q (.ref p) (upd H p (.lst ((zs.mergeSort fun a b => !dlt b.2 a.2).map (·.1))))
theorem each_vals : ∀ {out : List Value} {zs : List (V × D)}, EachIs (fun u (z : V × D) => RelV z.1 u) out zs → Vals (zs.map (·.1)) out
  | _, _, .nil => .nil
  | _, _, .cons h t => .cons h (each_vals t)
theorem vals_each : ∀ {zs : List (V × D)} {its : List Value}, Vals (zs.map (·.1)) its → EachIs (fun u (z : V × D) => RelV z.1 u) its zs
  | [], _, h => by cases h; exact .nil
  | z :: zs, _, h => by
    have h' : Vals (z.1 :: zs.map (·.1)) _ := h
    cases h' with
    | cons a b => exact .cons a (vals_each b)
theorem each_imp {α β : Type} {R S : α → β → Prop} : ∀ {xs : List α} {ys : List β}, EachIs R xs ys → (∀ x y, y ∈ ys → R x y → S x y) → EachIs S xs ys
  | _, _, .nil, _ => .nil
  | _, _, .cons h t, k => .cons (k _ _ (by simp) h) (each_imp t fun x y m => k x y (by simp [m]))
section
variable {T : Ct} {W : WX} {X : Cx}
theorem cr_sortedD (hu : X.A.units + 64 < cLine) : CallR X (.builtin "sorted") (rSortD X.K) := by
  intro pins s σ H vs us Q I r h
  obtain ⟨a, zs, rfl, hs, hd, hal, hk, q⟩ := h
  obtain ⟨its, rv, hl, hz⟩ := I.list hs
  rw [Vals.ref1 r]
  have e := vals_each rv
  refine PySem.W.sorted_data (β := V × D) (bs := zs) (enc := fun z => P z.2) (R := fun u z => RelV z.1 u) hl.isList e
    (each_imp e fun u z m rr => Dp.reads I _ _ _ (hd z m).1 rr) hal hk (by rw [List.length_map] at hz; exact hz) (fun b m => by have := (hd b m).2; omega) fun out hlen eo => ?_
  obtain ⟨ep, he'⟩ := PyProof.Rows.sortedAll_at s.heap its out.toArray
  have rv' : Vals ((zs.mergeSort fun a b => !dlt b.2 a.2).map (·.1)) out := each_vals eo
  have hlen' : ((zs.mergeSort fun a b => !dlt b.2 a.2).map (·.1)).length ≤ sizeLine := by
    rw [List.length_map, List.length_mergeSort]; rw [List.length_map] at hz; exact hz
  exact ⟨.ref _, upd H (s.heap.objs.size + 1) (.lst ((zs.mergeSort fun a b => !dlt b.2 a.2).map (·.1))), I.laid (t' := s.toks) (fun _ _ => PyProof.Rows.sortedAll_old) (Nat.le_succ _) ⟨hlen', out, ep, rv', he'⟩, rfl, q _ (I.hok.fresh (Nat.le_succ _))⟩
theorem repL_zip {G : Hp} : ∀ {ds : List D} {vs : List V}, RepL T G ds vs → (∀ z ∈ vs.zip ds, Rep T G z.2 z.1) ∧ (vs.zip ds).map (·.1) = vs ∧ (vs.zip ds).map (·.2) = ds
  | [], vs, h => by simp only [RepL] at h; subst h; simp
  | d :: ds, vs, h => by
    simp only [RepL] at h
    obtain ⟨v, r, rfl, h1, h2⟩ := h
    obtain ⟨a, b, c⟩ := repL_zip h2
    refine ⟨fun z hz => ?_, by simp [b], by simp [c]⟩
    rcases List.mem_cons.mp hz with rfl | hz
    · exact h1
    · exact a z hz
theorem repL_of_zip {G : Hp} : ∀ (zs : List (V × D)), (∀ z ∈ zs, Rep T G z.2 z.1) → RepL T G (zs.map (·.2)) (zs.map (·.1))
  | [], _ => .nil
  | z :: zs, h => .cons (h z (by simp)) (repL_of_zip zs fun y m => h y (by simp [m]))
theorem cf_sorted (hK : T.K = X.K) : CalF T X gSorted (rSortD X.K) where
  noE := noE1 fun x => by unfold gSorted; split <;> first | exact if_ne | exact .inl rfl
  run := by
    intro x d v G H Q l s rx h q
    unfold gSorted at h
    split at h
    · rename_i xs
      obtain ⟨c, rfl⟩ := if_ok h
      obtain ⟨p, vs, rfl, h2, r2⟩ := rb_lst s rx
      obtain ⟨hz, e1, e2⟩ := repL_zip r2
      unfold sortOk at c
      simp only [Bool.and_eq_true, Bool.or_eq_true, List.all_eq_true, decide_eq_true_eq] at c
      obtain ⟨⟨⟨c0, c1⟩, c2⟩, c3⟩ := c
      have em : ∀ z ∈ vs.zip xs, z.2 ∈ xs := fun z m => by rw [← e2]; exact List.mem_map.mpr ⟨z, m, rfl⟩
      refine ⟨p, vs.zip xs, rfl, by rw [e1]; exact .of h2, fun z m => ?_, ?_, ?_, fun p' hp' => ?_⟩
      · have hp8 := c1 z.2 (em z m)
        have := rep_dp (T := T) s 8 z.2 z.1 hp8 (hz z m)
        rw [hK] at this
        exact ⟨this.1, Nat.le_trans (depth_pl 8 _ hp8) (by omega)⟩
      · intro d hd d' hd'
        obtain ⟨z, m, rfl⟩ := List.mem_map.mp hd
        obtain ⟨z', m', rfl⟩ := List.mem_map.mp hd'
        exact c2 z.2 (em z m) z'.2 (em z' m')
      · rcases c3 with c3 | c3
        · refine .inl fun d hd => ?_
          obtain ⟨z, m, rfl⟩ := List.mem_map.mp hd
          have := c3 z.2 (em z m)
          cases hq : z.2 with
          | tup ys =>
            rw [hq] at this
            cases ys with
            | nil => simp [isTupC] at this
            | cons y ys => exact ⟨P y, PL ys, by simp [P, PL]⟩
          | _ => rw [hq] at this; simp [isTupC] at this
        · refine .inr fun d hd => ?_
          obtain ⟨z, m, rfl⟩ := List.mem_map.mp hd
          have := c3 z.2 (em z m)
          cases hq : z.2 <;> rw [hq] at this <;> simp [isTup, isNon] at this <;> simp [P]
      · have er : (vs.zip xs).mergeSort (fun a b => !dlt b.2 a.2) = (vs.zip xs).mergeSort (fun a b => (fun u w : D => !dlt w u) a.2 b.2) := rfl
        have hm : ((vs.zip xs).mergeSort (fun a b => !dlt b.2 a.2)).map (·.2) = sortD xs := by
          unfold sortD
          rw [PySem.W.sort_maps (fun z : V × D => z.2) (s := fun a b => !dlt b a) (fun _ _ _ _ => rfl), e2]
        have rr : RepL T G (sortD xs) (((vs.zip xs).mergeSort fun a b => !dlt b.2 a.2).map (·.1)) := by
          rw [← hm]
          exact repL_of_zip _ fun z m => hz z (List.mem_mergeSort.mp m)
        obtain ⟨g, a, b, cc⟩ := fresh_lst s hp' rr
        exact q _ _ _ g hp' a b cc
    · cases h
end
end DL

namespace DL
open PySem PySem.Spec L2
open PyProof.Rows hiding St

/-! ### {} -/
def eDct (t : Bool) : En → R D := fun _ => ok (.dct t [] [])
section
variable {T : Ct} {W : WX} {X : Cx} {pos : Pos}
theorem df_dctK : PE X (.Dict [] [] pos) (tF T W (eDct false)) := by
  refine PE.imp pe_dnewK fun σ H Q l ⟨G0, H0, G, e, r, s, hf, hp⟩ p hp0 => ?_
  cases hf
  have h := s.same
  exact fun l2 => hp p G _ (Good.newO h hp0) l2 hp0 (h.free hp0) (.inl ⟨[], upd_same, ⟨rfl, rfl⟩, rfl, .nil⟩) fun dx fs C z => by rw [upd_same] at z; cases z
theorem df_dctT : PE X (.Dict [] [] pos) (tF T W (eDct true)) := by
  refine PE.imp pe_dnewT fun σ H Q l ⟨G0, H0, G, e, r, s, hf, hp⟩ p hp0 => ?_
  cases hf
  have h := s.same
  exact fun l2 => hp p G _ (Good.newO h hp0) l2 hp0 (h.free hp0) (.inr ⟨[], upd_same, ⟨rfl, rfl⟩, rfl, .nil⟩) fun dx fs C z => by rw [upd_same] at z; cases z
end

/-! ### text methods of one argument -/
def eM1 (g : Str → D → R D) (fo fa : En → R D) : En → R D := fun e => bR (fo e) fun x => match x with
  | .str z => bR (fa e) fun y => g z y
  | _ => none
structure M1D (T : Ct) (X : Cx) (g : Str → D → R D) (r : V → List V → Hp → VK → Prop) : Prop where
  noE : ∀ z y x, g z y ≠ some (.err x)
  run : ∀ (z : Str) (y d : D) (v : V) (G H : Hp) (Q : VK), HLen H → Same G H → PyData.strOk z = true → RepB T G H y v → g z y = ok d → (∀ w G' H', Good G H G' H' → Rep T G' d w → Q w H') → r (.str z) [v] H Q
structure M1F (T : Ct) (X : Cx) (g : Str → D → R D) (r : V → List V → Hp → VK → Prop) : Prop where
  noE : ∀ z y x, g z y ≠ some (.err x)
  run : ∀ (z : Str) (y d : D) (v : V) (G H : Hp) (Q : VK), HLen H → Same G H → PyData.strOk z = true → RepB T G H y v → g z y = ok d →
    (∀ p G' H', Good G H G' H' → H p = none → G' p = none → Own T G' H' p d → (∀ dx fs C, H' p = some (.ins C dx fs) → H dx = none) → Q (.ref p) H') → r (.str z) [v] H Q
section
variable {T : Ct} {W : WX} {X : Cx} {g : Str → D → R D} {r : V → List V → Hp → VK → Prop} {fo fa : En → R D} {a : Expr} {t : TE}
theorem m1E (hd : M1D T X g r) (h : PE X a t) (ht : t = tM1 r (tB T W fo) (tB T W fa)) : PE X a (tE T W (eM1 g fo fa)) := by
  subst ht
  refine PE.imp h fun σ H Q l ⟨G0, H0, G, e, rr, s, hf, hp⟩ => ?_
  refine seqB s hf hp fun x v G1 H1 g1 l1 s1 rx hk => ?_
  split at hk
  · rename_i z
    obtain ⟨rfl, hz⟩ := rb_str rx
    refine ⟨⟨z, rfl⟩, seqB (kk := fun _ => True) s1 hk (hp.ext g1 fun _ _ => trivial) fun y u G2 H2 g2 l2 s2 ry hk2 => ?_⟩
    cases rr with
    | err x => exact absurd hk2 (hd.noE z y x)
    | ok d => exact hd.run z y d u G2 H2 _ l2 s2.same hz ry hk2 fun w G' H' g' rw => fun l' => hp w G' H' ((g1.trans g2).trans g') l' rw
  · cases hk
theorem m1F (hd : M1F T X g r) (h : PE X a t) (ht : t = tM1 r (tB T W fo) (tB T W fa)) : PE X a (tF T W (eM1 g fo fa)) := by
  subst ht
  refine PE.imp h fun σ H Q l ⟨G0, H0, G, e, rr, s, hf, hp⟩ => ?_
  refine seqB s hf hp fun x v G1 H1 g1 l1 s1 rx hk => ?_
  split at hk
  · rename_i z
    obtain ⟨rfl, hz⟩ := rb_str rx
    refine ⟨⟨z, rfl⟩, seqB (kk := fun _ => True) s1 hk (hp.ext g1 fun _ _ => trivial) fun y u G2 H2 g2 l2 s2 ry hk2 => ?_⟩
    have g12 := g1.trans g2
    cases rr with
    | err x => exact absurd hk2 (hd.noE z y x)
    | ok d => exact hd.run z y d u G2 H2 _ l2 s2.same hz ry hk2 fun p G' H' g' h1 h2 o hx => fun l' => hp p G' H' (g12.trans g') l' (g12.hh.free h1) h2 o fun dx fs C z => g12.hh.free (hx dx fs C z)
  · cases hk
def strsOf : List D → Option (List Str)
  | [] => some []
  | .str x :: ds => (strsOf ds).map (x :: ·)
  | _ => none
theorem strs_of {G : Hp} : ∀ {ds : List D} {vs : List V} {ns : List Str}, strsOf ds = some ns → RepL T G ds vs → vs = ns.map V.str ∧ (ns.all PyData.strOk) = true
  | [], vs, ns, h, r => by cases h; simp only [RepL] at r; exact ⟨r, rfl⟩
  | d :: ds, vs, ns, h, r => by
    simp only [RepL] at r
    obtain ⟨v, rr, rfl, h1, h2⟩ := r
    cases d with
    | str i =>
      simp only [strsOf] at h
      cases q : strsOf ds with
      | none => rw [q] at h; cases h
      | some ms =>
        rw [q] at h; cases h
        obtain ⟨a, b⟩ := strs_of q h2
        obtain ⟨rfl, h3⟩ : v = V.str i ∧ _ := by simpa only [Rep] using h1
        rw [a]
        exact ⟨rfl, by rw [List.all_cons, b, h3]; rfl⟩
    | _ => simp only [strsOf] at h; cases h
def gJoin (z : Str) : D → R D
  | .lst xs => (strsOf xs).elim none fun ys => if (ys.map (·.length)).sum + ys.length * z.length ≤ 16777216 ∧ PyData.strOk (Txt.join z ys) = true then ok (.str (Txt.join z ys)) else none
  | .tup xs => (strsOf xs).elim none fun ys => if (ys.map (·.length)).sum + ys.length * z.length ≤ 16777216 ∧ PyData.strOk (Txt.join z ys) = true then ok (.str (Txt.join z ys)) else none
  | _ => none
theorem elim_if {α : Type} {o : Option α} {c : α → Prop} [∀ a, Decidable (c a)] {f : α → D} {d : D} (h : (o.elim none fun a => if c a then ok (f a) else none) = ok d) : ∃ a, o = some a ∧ c a ∧ f a = d := by
  cases o with
  | none => cases h
  | some a => exact ⟨a, rfl, if_ok h⟩
theorem elim_ne {α : Type} {o : Option α} {c : α → Prop} [∀ a, Decidable (c a)] {f : α → D} {x : Ex} : (o.elim none fun a => if c a then ok (f a) else none) ≠ some (.err x) := by
  cases o with
  | none => exact fun z => nomatch z
  | some a =>
    intro h
    simp only [Option.elim] at h
    split at h <;> cases h
theorem md_join (hK : T.K = X.K) : M1D T X gJoin (fun x xs H Q => ∃ a p, ∃ ys : List Str, x = .str a ∧ xs = [.ref p] ∧ (SqL X.K H p (ys.map V.str) ∨ SqT X.K H p (ys.map V.str)) ∧
    (ys.map (·.length)).sum + ys.length * a.length ≤ 16777216 ∧ Q (.str (Txt.join a ys)) H) where
  noE := fun z y x => by
    unfold gJoin
    split
    · exact elim_ne
    · exact elim_ne
    · exact fun z => nomatch z
  run := by
    intro z y d v G H Q l s hz ry h q
    unfold gJoin at h
    split at h
    · obtain ⟨ys, h1, ⟨c1, c2⟩, rfl⟩ := elim_if h
      obtain ⟨p, vs, rfl, h2, r2⟩ := rb_lst s ry
      obtain ⟨rfl, _⟩ := strs_of h1 r2
      exact ⟨z, p, ys, rfl, rfl, .inl (.of h2), c1, q _ G H (Good.refl s) (rep_str c2)⟩
    · obtain ⟨ys, h1, ⟨c1, c2⟩, rfl⟩ := elim_if h
      obtain ⟨p, vs, rfl, h2, r2⟩ := rb_tup s ry
      obtain ⟨rfl, _⟩ := strs_of h1 r2
      rw [hK] at h2
      exact ⟨z, p, ys, rfl, rfl, .inr (sqT_mono s h2), c1, q _ G H (Good.refl s) (rep_str c2)⟩
    · cases h
variable {o : Expr} {apos cpos pos : Pos}
theorem de_join (hK : T.K = X.K) (ho : PE X o (tB T W fo)) (he : PE X a (tB T W fa)) (hs : starEach [a] X.env = [(false, eval a X.env)] := by rfl) (hbase : attributeBase o "join" X.env (eval o X.env) = eval o X.env := by rfl) (hline : (apos.endLine == pos.line) = true := by rfl) :
    PE X (.Call (.Attribute o "join" apos) [a] [] pos) (tE T W (eM1 gJoin fo fa)) := m1E (md_join hK) (pe_join ho he hs hbase hline) rfl
end

/-! ### xs.index(y) -/
def findD (y : D) : List D → Nat → Option Nat
  | [], _ => none
  | z :: zs, k => if deq z y = true then some k else findD y zs (k + 1)
def gIndex : D → D → R D
  | .lst xs, y => if pl 8 y = true ∧ xs.all (pl 8) = true then (findD y xs 0).elim none fun k => ok (.int k) else none
  | _, _ => none
def isLst : D → Bool
  | .lst _ => true
  | _ => false
def eIndex (fo fa : En → R D) : En → R D := fun e => bR (fo e) fun x => if isLst x = true then bR (fa e) fun y => gIndex x y else none
theorem findD_some {y : D} : ∀ {xs : List D} {k j : Nat}, findD y xs k = some j → ∃ i z, j = k + i ∧ xs[i]? = some z ∧ deq z y = true ∧ ∀ m z', m < i → xs[m]? = some z' → deq z' y = false
  | [], _, _, h => by cases h
  | x :: xs, k, j, h => by
    unfold findD at h
    split at h
    · rename_i hx
      cases h
      exact ⟨0, x, rfl, rfl, hx, fun m z' hm => by omega⟩
    · rename_i hx
      obtain ⟨i, z, rfl, h2, h3, h4⟩ := findD_some h
      refine ⟨i + 1, z, by omega, h2, h3, fun m z' hm hz => ?_⟩
      cases m with
      | zero => simp at hz; subst hz; simpa using hx
      | succ m => exact h4 m z' (by omega) (by simpa using hz)
section
variable {T : Ct} {W : WX} {X : Cx} {fo fa : En → R D} {a o : Expr} {apos cpos : Pos}
theorem de_index (hK : T.K = X.K) (hu : X.A.units + 65 < cLine) (ho : PE X o (tB T W fo)) (ha : PE X a (tB T W fa)) (hbase : attributeBase o "index" X.env (eval o X.env) = eval o X.env := by rfl)
    (hfew : ((backTo cpos (starEach (a :: []) X.env)).all (fun x => !x.1) && (backToKw cpos (keywordEach [] X.env)).all (fun x => x.1.isSome)
      && decide ((a :: []).length + ([] : List Keyword).length + (if ([] : List Keyword).isEmpty then 0 else 1) < 30)) = true := by rfl)
    (hline : (apos.endLine == cpos.line) = true := by rfl) (hs : starEach (a :: []) X.env = (false, eval a X.env) :: starEach [] X.env := by rfl) (hplain : (backTo cpos (starEach [] X.env)).any (·.1) = false := by rfl) :
    PE X (.Call (.Attribute o "index" apos) [a] [] cpos) (tE T W (eIndex fo fa)) := by
  refine PE.imp (pe_bm (T := "list") PySem.F.plainAttrs_list PySem.F.slot_list_index PySem.F.type_list_index (mt_indexD hu) ho (pa_cons ha pa_nil hs) hbase hfew hline hs hplain) fun σ H Q l ⟨G0, H0, G, e, r, s, hf, hp⟩ => ?_
  refine seqB s hf hp fun x v G1 H1 g1 l1 s1 rx hk => ?_
  split at hk
  · rename_i hx
    cases x with
    | lst xs =>
      obtain ⟨p, vs, rfl, h2, r2⟩ := rb_lst s1.same rx
      refine ⟨.inl ⟨rfl, vs, .of h2⟩, seqB (kk := fun _ => True) s1 hk (hp.ext g1 fun _ _ => trivial) fun y u G2 H2 g2 l2 s2 ry hk2 => ?_⟩
      simp only [gIndex] at hk2
      split at hk2
      · rename_i c
        cases q : findD y xs 0 with
        | none => rw [q] at hk2; cases hk2
        | some j =>
          rw [q] at hk2
          cases hk2
          obtain ⟨i, z, rfl, h4, h5, h6⟩ := findD_some q
          obtain ⟨a1, b1⟩ := repB_dp s2.same c.1 ry
          have rx2 : RepB T G2 H2 (.lst xs) (.ref p) := rx.good g2
          obtain ⟨a2, b2⟩ := dp_lst hK s2.same c.2 rx2
          rw [hK] at a1
          refine ⟨p, u, P y, PL xs, i, P z, rfl, rfl, a2, a1, shaped_pl (n := 9) (x := .lst xs) (by decide) (by simpa [pl] using c.2) (by simpa only [P] using b2), shaped_pl (by decide) c.1 b1, ?_, h5, fun m z' hm hz => ?_, ?_⟩
          · rw [PL_map, List.getElem?_map, h4]; rfl
          · rw [PL_map, List.getElem?_map] at hz
            obtain ⟨w, hw, rfl⟩ := Option.map_eq_some_iff.mp hz
            exact h6 m w hm hw
          · rw [Nat.zero_add] at hp
            exact fun l' => hp _ G2 H2 (g1.trans g2) l' rep_int
      · cases hk2
    | _ => cases hx
  · cases hk
end
end DL

namespace DL
open PySem PySem.Spec L2
open PyProof.Rows hiding St

def gNeg : D → R D
  | .int i => ok (.int (-i))
  | _ => none
section
variable {T : Ct} {W : WX} {X : Cx} {fa : En → R D} {a : Expr} {pos : Pos}
theorem de_neg (ha : PE X a (tE T W fa)) : PE X (.UnaryOp .USub a pos) (tE T W (e1 gNeg fa)) := by
  refine PE.imp (pe_un un_neg ha) fun σ H Q l ⟨G0, H0, G, e, r, s, hf, hp⟩ => ?_
  refine seqE s hf hp fun x v G1 H1 g1 l1 s1 rx hk => ?_
  unfold gNeg at hk
  split at hk
  · rename_i i
    cases hk
    obtain rfl : v = .int i := by simpa only [Rep] using rx
    exact ⟨i, rfl, fun l2 => hp _ G1 H1 g1 l2 rep_int⟩
  · cases hk
theorem de_gs {x z : Str} {u : Value} (hg : Gl X x) (hm : X.mg x = some u) (hr : RelV (.str z) u) (hz : PyData.strOk z = true) (hd : (x == ("__debug__" : Str)) = false := by decide) : PE X (.Name x pos) (tE T W (eC (.str z))) := de_c (pe_glob hg hm hr hd) fun _ => by simp [Rep, hz]
theorem de_gi {x : Str} {i : Int} {u : Value} (hg : Gl X x) (hm : X.mg x = some u) (hr : RelV (.int i) u) (hd : (x == ("__debug__" : Str)) = false := by decide) : PE X (.Name x pos) (tE T W (eC (.int i))) := de_c (pe_glob hg hm hr hd) fun _ => by simp [Rep]
theorem takesN : Takes X (fun _ _ _ _ => False) := fun _ _ x => by
  obtain ⟨_, _, _, _, _, _, _, _, _, _, _, _, _, _, _, _, z⟩ := x
  exact z.elim
end
end DL
namespace DL
open PySem PySem.Spec L2
open PyProof.Rows hiding St
/-- the law's own head: its answer is True -/
theorem law_end {K : PySem.W.Frag} {H : Hp} {a : Addr} {ns : List Int} {ca : Nat → Addr} {C : List D → R D} {E : XK} (h : C [.scr ns] = ok (.bl true)) (hS : SqL K H a (ns.map V.int)) : spD ⟨K, ca⟩ 1 C [.ref a] H (fun v _ => v = .bl true) E := by
  refine ⟨H, [.scr ns], .ok (.bl true), Same.refl H, rfl, .cons ?_ .nil, h, fun v G' H' _ _ r => ?_⟩
  · simp only [Rep]; exact ⟨a, rfl, hS⟩
  · simpa only [Rep] using r
theorem cx_end {P : Program} {w : World} {outer : List PySem.Env} {H : Hp} {s : Shared} {e : Value} {s' : Shared} (h : L2.CX P w outer H s (fun _ _ _ => False) e s') : False := by
  obtain ⟨_, _, _, _, _, _, _, _, _, _, _, _, z⟩ := h
  exact z
end DL

namespace DL
open PySem PySem.Spec L2
open PyProof.Rows hiding St
def B_is_yes : FS := sRet (e2 gNe (e2 gIx (bV 0) (eC (.int 0))) (eC (.str "!")))
def C_is_yes : List D → R D := fun ds => toR (B_is_yes (startE 1 ds))
def B_issue_of : FS := sSeq (sIf (tU (eCall C_is_yes (aC (eV 0) (aN)))) (sRet (eV 0)) (sNext)) (sRet (eSl gSl (bV 0) (oS (eC (.int 1))) (oN)))
def C_issue_of : List D → R D := fun ds => toR (B_issue_of (startE 1 ds))
def B_place_of : FS := sRet (eTup (aC (eCall C_issue_of (aC (eV 0) (aN))) (aC (eNot (eCall C_is_yes (aC (eV 0) (aN)))) (aN))))
def C_place_of : List D → R D := fun ds => toR (B_place_of (startE 1 ds))
def B_order_of : FS := sRetF (eComp [1] (iA (bV 0)) (gN 1) (tTrue) (eCall C_place_of (aC (eV 1) (aN))))
def C_order_of : List D → R D := fun ds => toRF (B_order_of (startE 2 ds))
def B_holds : FS := sRet (e1 gAll (eComp [2] (iA (bV 1)) (gN 2) (tTrue) (e2 gIn (bV 2) (bV 0))))
def C_holds : List D → R D := fun ds => toR (B_holds (startE 3 ds))
def B_is_ascending : FS := sRet (e1 gAll (eComp [1, 2] (iZ (eV 0) (eSl gSl (bV 0) (oS (eC (.int 1))) (oN))) (gT 2 (gsC (gN 1) (gsC (gN 2) (gsN)))) (tTrue) (e2 gLt (bV 1) (bV 2))))
def C_is_ascending : List D → R D := fun ds => toR (B_is_ascending (startE 3 ds))
def B_is_verdict : FS := sSeq (sIf (fOr (fNot (tU (e1 (gIs "str") (bV 1)))) (fNot (tU (bV 1)))) (sRet (eC (.bl false))) (sNext)) (sRet (e2 gIn (eCall C_issue_of (aC (eV 1) (aN))) (bV 0)))
def C_is_verdict : List D → R D := fun ds => toR (B_is_verdict (startE 2 ds))
def B_is_view_of : FS := sSeq (sIf (fOr (fNot (tU (e1 (gIs "list") (bV 1)))) (fNot (tU (e1 gAll (eComp [2] (iA (bV 1)) (gN 2) (tTrue) (eCall C_is_verdict (aC (eV 0) (aC (eV 2) (aN))))))))) (sRet (eC (.bl false))) (sNext)) (sRet (eCall C_is_ascending (aC (eComp [2] (iA (bV 1)) (gN 2) (tTrue) (eCall C_issue_of (aC (eV 2) (aN)))) (aN))))
def C_is_view_of : List D → R D := fun ds => toR (B_is_view_of (startE 3 ds))
def B_holds_some : FS := sRet (e1 gAny (eComp [2] (iA (bV 1)) (gN 2) (tTrue) (eCall C_holds (aC (eV 0) (aC (eV 2) (aN))))))
def C_holds_some : List D → R D := fun ds => toR (B_holds_some (startE 3 ds))
def B_is_bar : FS := sRet (eAnd (eCall C_is_view_of (aC (eV 0) (aC (eV 1) (aN)))) (e2 gGt (e1 gLen (bV 1)) (eC (.int 0))))
def C_is_bar : List D → R D := fun ds => toR (B_is_bar (startE 2 ds))
def B_none_holds_another : FS := sSeq (sFor (iEn (eV 0)) (gT 2 (gsC (gN 1) (gsC (gN 2) (gsN)))) (sIf (tU (eCall C_holds_some (aC (eV 2) (aC (e2 gAdd (eSl gSl (bV 0) (oN) (oS (eV 1))) (eSl gSl (bV 0) (oS (e2 gAdd (bV 1) (eC (.int 1)))) (oN))) (aN))))) (sRet (eC (.bl false))) (sNext))) (sRet (eC (.bl true)))
def C_none_holds_another : List D → R D := fun ds => toR (B_none_holds_another (startE 3 ds))
def B_are_bars : FS := sSeq (sIf (fOr (fNot (tU (e1 (gIs "list") (bV 1)))) (fNot (tU (e1 gAll (eComp [2] (iA (bV 1)) (gN 2) (tTrue) (eCall C_is_bar (aC (eV 0) (aC (eV 2) (aN))))))))) (sRet (eC (.bl false))) (sNext)) (sSeq (sIf (fNot (tU (eCall C_is_ascending (aC (eComp [2] (iA (bV 1)) (gN 2) (tTrue) (eCall C_order_of (aC (eV 2) (aN)))) (aN))))) (sRet (eC (.bl false))) (sNext)) (sRet (eCall C_none_holds_another (aC (eV 1) (aN)))))
def C_are_bars : List D → R D := fun ds => toR (B_are_bars (startE 3 ds))
def B_is_barring : FS := sRet (eCall C_are_bars (aC (eV 0) (aC (eV 1) (aN))))
def C_is_barring : List D → R D := fun ds => toR (B_is_barring (startE 2 ds))
def B__law_numbers : FS := sSeq (sSet 3 (e2 gMul (eC (.int 1000003)) (e2 gAdd (bV 1) (eC (.int 1))))) (sSeq (sIf (tV (e2 gLt (bV 1) (e1 gLen (bV 0)))) (sSet 3 (e1 gInt (e2 gIx (bV 0) (bV 1)))) (sNext)) (sSeq (sIf (tV (e2 gLt (bV 3) (eC (.int 0)))) (sSet 3 (e2 gSub (eC (.int 1)) (e2 gMul (eC (.int 2)) (bV 3)))) (sNext)) (sSeq (sSetO 4 (eLst (aN))) (sSeq (sFor (iR1 (eV 2)) (gN 5) (sIf (tV (e2 gGe (bV 3) (e2 gPow (eC (.int 10)) (eC (.int 18))))) (sSeq (sApp 4 (e2 gMod (bV 3) (eC (.int 1009)))) (sSet 3 (e2 gDiv (bV 3) (eC (.int 1009))))) (sSeq (sSet 6 (e2 gMod (e2 gAdd (e2 gAdd (e2 gMul (bV 3) (eC (.int 48271))) (e2 gMul (e2 gAdd (bV 5) (eC (.int 1))) (eC (.int 69621)))) (e2 gMul (bV 1) (eC (.int 4001)))) (eC (.int 2147483647)))) (sSeq (sSet 6 (e2 gMod (e2 gAdd (e2 gMul (bV 6) (bV 6)) (e2 gMul (eC (.int 16807)) (e2 gAdd (bV 5) (eC (.int 3))))) (eC (.int 2147483629)))) (sApp 4 (e2 gMod (e2 gDiv (bV 6) (eC (.int 7))) (eC (.int 1009)))))))) (sRetV 4)))))
def C__law_numbers : List D → R D := fun ds => toRF (B__law_numbers (startE 7 ds))
def B__law_name : FS := sSeq (sSet 3 (eC (.str "abcdefghijklmnopqrstuvwxyz"))) (sSeq (sSet 4 (e2 gAdd (bV 3) (eC (.str "0123456789")))) (sSeq (sSet 5 (e2 gIx (bV 3) (e2 gMod (bV 0) (eC (.int 26))))) (sSeq (sFor (iR1 (e2 gMod (bV 1) (eC (.int 12)))) (gN 6) (sSeq (sSet 2 (e2 gMod (e2 gAdd (e2 gAdd (e2 gAdd (e2 gMul (bV 2) (eC (.int 8191))) (bV 0)) (e2 gMul (bV 6) (eC (.int 77)))) (eC (.int 5))) (eC (.int 1000003)))) (sSet 5 (e2 gAdd (bV 5) (e2 gIx (bV 4) (e2 gMod (bV 2) (eC (.int 36)))))))) (sRet (eV 5)))))
def C__law_name : List D → R D := fun ds => toR (B__law_name (startE 7 ds))
def B__law_names : FS := sSeq (sSet 2 (eC (.str "abcdefghijklmnopqrstuvwxyz"))) (sSeq (sSetO 3 (eLst (aN))) (sSeq (sFor (iR1 (eV 1)) (gN 4) (sSeq (sPar3 5 6 7 (aC (e2 gIx (bV 0) (e2 gMul (eC (.int 3)) (bV 4))) (aC (e2 gIx (bV 0) (e2 gAdd (e2 gMul (eC (.int 3)) (bV 4)) (eC (.int 1)))) (aC (e2 gIx (bV 0) (e2 gAdd (e2 gMul (eC (.int 3)) (bV 4)) (eC (.int 2)))) (aN))))) (sSeq (sSet 8 (eCall C__law_name (aC (eV 5) (aC (eV 6) (aC (eV 7) (aN)))))) (sSeq (sIf (fAnd (tV (e2 gGt (bV 4) (eC (.int 0)))) (fAnd (tV (e2 gEq (e2 gMod (bV 7) (eC (.int 3))) (eC (.int 0)))) (tV (e2 gLt (e1 gLen (e2 gIx (bV 3) (e1 gNeg (eC (.int 1))))) (eC (.int 12)))))) (sSet 8 (e2 gAdd (e2 gIx (bV 3) (e1 gNeg (eC (.int 1)))) (e2 gIx (bV 8) (e1 gNeg (eC (.int 1)))))) (sNext)) (sSeq (sFor (iR1 (eC (.int 26))) (gN 9) (sIf (tV (e2 gIn (bV 8) (bV 3))) (sSet 8 (e2 gAdd (e2 gIx (bV 2) (e2 gMod (e2 gAdd (bV 5) (bV 9)) (eC (.int 26)))) (eSl gSl (bV 8) (oS (eC (.int 1))) (oN)))) (sNext))) (sApp 3 (eV 8))))))) (sRetV 3)))
def C__law_names : List D → R D := fun ds => toRF (B__law_names (startE 10 ds))
def B__law_says : FS := sRet (eAnd (e1 (gIs "bool") (bV 0)) (e2 gEq (bV 0) (bV 1)))
def C__law_says : List D → R D := fun ds => toR (B__law_says (startE 2 ds))
def B__law_issue : FS := sSeq (sIf (tV (e2 gEq (e2 gIx (bV 0) (eC (.int 0))) (eC (.str "!")))) (sRet (eSl gSl (bV 0) (oS (eC (.int 1))) (oN))) (sNext)) (sRet (eV 0))
def C__law_issue : List D → R D := fun ds => toR (B__law_issue (startE 1 ds))
def B__law_opposite : FS := sSeq (sIf (tV (e2 gEq (e2 gIx (bV 0) (eC (.int 0))) (eC (.str "!")))) (sRet (eSl gSl (bV 0) (oS (eC (.int 1))) (oN))) (sNext)) (sRet (e2 gAdd (eC (.str "!")) (bV 0)))
def C__law_opposite : List D → R D := fun ds => toR (B__law_opposite (startE 1 ds))
def B__law_order : FS := sRetF (eComp [1] (iA (bV 0)) (gN 1) (tTrue) (eTup (aC (eCall C__law_issue (aC (eV 1) (aN))) (aC (e1 gInt (e2 gEq (e2 gIx (bV 1) (eC (.int 0))) (eC (.str "!")))) (aN)))))
def C__law_order : List D → R D := fun ds => toRF (B__law_order (startE 2 ds))
def B__law_sort : FS := sRetF (eComp [1] (iA (e1 gSorted (eComp [2] (iA (bV 0)) (gN 2) (tTrue) (eTup (aC (eCall C__law_order (aC (eV 2) (aN))) (aC (eV 2) (aN))))))) (gN 1) (tTrue) (e2 gIx (bV 1) (eC (.int 1))))
def C__law_sort : List D → R D := fun ds => toRF (B__law_sort (startE 3 ds))
def B__law_view : FS := sRetF (eComp [1] (iA (e1 gSorted (eComp [2] (iA (bV 0)) (gN 2) (tTrue) (eTup (aC (eCall C__law_issue (aC (eV 2) (aN))) (aC (e1 gInt (e2 gEq (e2 gIx (bV 2) (eC (.int 0))) (eC (.str "!")))) (aC (eV 2) (aN)))))))) (gN 1) (tTrue) (e2 gIx (bV 1) (eC (.int 2))))
def C__law_view : List D → R D := fun ds => toRF (B__law_view (startE 3 ds))
def B__law_rows : FS := sSeq (sSet 1 (eLst (aC (eLst (aN)) (aN)))) (sSeq (sFor (iA (eV 0)) (gN 2) (sSeq (sSet 3 (eLst (aN))) (sSeq (sFor (iA (eV 1)) (gN 4) (sSet 3 (e2 gAdd (bV 3) (eLst (aC (e2 gAdd (bV 4) (eLst (aC (eV 2) (aN)))) (aC (e2 gAdd (bV 4) (eLst (aC (e2 gAdd (eC (.str "!")) (bV 2)) (aN)))) (aN))))))) (sSet 1 (eV 3))))) (sRet (eV 1)))
def C__law_rows : List D → R D := fun ds => toR (B__law_rows (startE 5 ds))
def B__law_has : FS := sRet (e2 gEq (eComp [2] (iA (bV 1)) (gN 2) (tV (e2 gNotIn (bV 2) (bV 0))) (eV 2)) (eLst (aN)))
def C__law_has : List D → R D := fun ds => toR (B__law_has (startE 3 ds))
def B__law_hanging : FS := sSeq (sSetO 1 (eDct true)) (sSeq (sFor (iA (eV 0)) (gN 2) (sSeq (sSet 3 (eLst (aC (eTup (aN)) (aN)))) (sSeq (sFor (iA (eV 2)) (gN 4) (sSet 3 (e2 gAdd (bV 3) (eComp [5] (iA (bV 3)) (gN 5) (tTrue) (e2 gAdd (bV 5) (eTup (aC (eV 4) (aN)))))))) (sFor (iA (eV 3)) (gN 5) (sAsg (gP 1 (eV 5)) (eC (.bl true))))))) (sRetV 1))
def C__law_hanging : List D → R D := fun ds => toRF (B__law_hanging (startE 6 ds))
def B__law_views : FS := sSeq (sSet 1 (eLst (aC (eTup (aN)) (aN)))) (sSeq (sFor (iA (eV 0)) (gN 2) (sSeq (sSetO 3 (e1 gList (bV 1))) (sSeq (sFor (iA (eV 1)) (gN 4) (sSeq (sApp 3 (e2 gAdd (bV 4) (eTup (aC (eV 2) (aN))))) (sApp 3 (e2 gAdd (bV 4) (eTup (aC (e2 gAdd (eC (.str "!")) (bV 2)) (aN))))))) (sFrz 3 (sSet 1 (eV 3)))))) (sRet (eV 1)))
def C__law_views : List D → R D := fun ds => toR (B__law_views (startE 5 ds))
def B__law_least : FS := sSeq (sSetO 2 (eLst (aN))) (sSeq (sFor (iA (eCall C__law_views (aC (eV 0) (aN)))) (gN 3) (sIf (tV (e2 gNotIn (bV 3) (bV 1))) (sSeq (sSet 4 (eC (.bl true))) (sSeq (sFor (iR1 (e1 gLen (bV 3))) (gN 5) (sIf (tV (e2 gNotIn (e2 gAdd (eSl gSl (bV 3) (oN) (oS (eV 5))) (eSl gSl (bV 3) (oS (e2 gAdd (bV 5) (eC (.int 1)))) (oN))) (bV 1))) (sSet 4 (eC (.bl false))) (sNext))) (sIf (tU (bV 4)) (sApp 2 (e1 gList (bV 3))) (sNext)))) (sNext))) (sFrz 2 (sRetF (eCall C__law_sort (aC (eV 2) (aN))))))
def C__law_least : List D → R D := fun ds => toRF (B__law_least (startE 6 ds))
def B__law_agenda : FS := sSeq (sSet 3 (eCall C__law_numbers (aC (eV 0) (aC (eV 1) (aC (eC (.int 20)) (aN)))))) (sSeq (sSet 4 (e1 gSorted (eCall C__law_names (aC (eCall C__law_numbers (aC (eV 0) (aC (e2 gAdd (bV 1) (eC (.int 1))) (aC (eC (.int 18)) (aN))))) (aC (e2 gAdd (eC (.int 1)) (e2 gMod (e2 gIx (bV 3) (eC (.int 0))) (bV 2))) (aN)))))) (sSeq (sSet 5 (eCall C__law_rows (aC (eV 4) (aN)))) (sSeq (sSet 6 (eCall C__law_numbers (aC (eV 0) (aC (e2 gAdd (bV 1) (eC (.int 2))) (aC (eC (.int 64)) (aN)))))) (sSeq (sSet 7 (e2 gMod (e2 gIx (bV 3) (eC (.int 1))) (eC (.int 6)))) (sSeq (sSet 8 (eComp [10] (iR1 (e1 gLen (bV 5))) (gN 10) (tV (e2 gEq (e2 gMod (e2 gIx (bV 6) (bV 10)) (e2 gIx (eLst (aC (eC (.int 2)) (aC (eC (.int 5)) (aC (eC (.int 7)) (aC (eC (.int 2)) (aC (eC (.int 1)) (aC (eC (.int 9)) (aN)))))))) (bV 7))) (eC (.int 0)))) (e2 gIx (bV 5) (bV 10)))) (sSeq (sIf (tV (e2 gEq (bV 7) (eC (.int 2)))) (sSet 8 (eComp [10] (iR1 (e1 gLen (bV 5))) (gN 10) (tV (e2 gGt (e2 gMod (e2 gIx (bV 6) (bV 10)) (eC (.int 7))) (eC (.int 0)))) (e2 gIx (bV 5) (bV 10)))) (sNext)) (sSeq (sIf (tV (e2 gEq (bV 7) (eC (.int 3)))) (sSeq (sSetO 9 (eLst (aN))) (sSeq (sFor (iR1 (e2 gAdd (eC (.int 1)) (e2 gMod (e2 gIx (bV 3) (eC (.int 2))) (eC (.int 4))))) (gN 10) (sSeq (sSet 11 (e2 gAdd (eC (.int 1)) (e2 gMod (e2 gIx (bV 3) (e2 gAdd (eC (.int 3)) (bV 10))) (eC (.int 3))))) (sApp 9 (eComp [12] (iR1 (eV 11)) (gN 12) (tTrue) (e2 gIx (eLst (aC (e2 gIx (bV 4) (e2 gMod (e2 gAdd (e2 gIx (bV 6) (e2 gAdd (e2 gMul (eC (.int 5)) (bV 10)) (bV 12))) (bV 12)) (e1 gLen (bV 4)))) (aC (e2 gAdd (eC (.str "!")) (e2 gIx (bV 4) (e2 gMod (e2 gAdd (e2 gIx (bV 6) (e2 gAdd (e2 gMul (eC (.int 5)) (bV 10)) (bV 12))) (bV 12)) (e1 gLen (bV 4))))) (aN)))) (e2 gMod (e2 gIx (bV 6) (e2 gAdd (e2 gAdd (eC (.int 20)) (e2 gMul (eC (.int 5)) (bV 10))) (bV 12))) (eC (.int 2)))))))) (sSet 8 (eComp [13] (iA (bV 5)) (gN 13) (tV (e2 gEq (eComp [14] (iA (bV 9)) (gN 14) (tU (eCall C__law_has (aC (eV 13) (aC (eV 14) (aN))))) (eV 14)) (eLst (aN)))) (eV 13))))) (sNext)) (sSeq (sIf (tV (e2 gEq (bV 8) (eLst (aN)))) (sSet 8 (eLst (aC (e2 gIx (bV 5) (e2 gMod (e2 gIx (bV 6) (eC (.int 0))) (e1 gLen (bV 5)))) (aN)))) (sNext)) (sRet (eTup (aC (eV 4) (aC (eV 8) (aN)))))))))))))
def C__law_agenda : List D → R D := fun ds => toR (B__law_agenda (startE 15 ds))
def B__law_stranger : FS := sSeq (sFor (iR1 (eC (.int 41))) (gN 2) (sSeq (sSet 3 (e2 gAdd (eC (.str "z")) (e1 gStr (e2 gMod (e2 gAdd (bV 1) (bV 2)) (eC (.int 1009)))))) (sIf (tV (e2 gNotIn (bV 3) (bV 0))) (sRet (eV 3)) (sNext)))) (sRet (eC (.str "z")))
def C__law_stranger : List D → R D := fun ds => toR (B__law_stranger (startE 4 ds))
def B__law_is_view : FS := sSeq (sIf (fOr (fNot (tU (e1 (gIs "list") (bV 1)))) (tV (e2 gNe (eComp [3] (iA (bV 1)) (gN 3) (fOr (fNot (tU (e1 (gIs "str") (bV 3)))) (fOr (tV (e2 gEq (bV 3) (eC (.str "")))) (tV (e2 gNotIn (eCall C__law_issue (aC (eV 3) (aN))) (bV 0))))) (eV 3)) (eLst (aN))))) (sRet (eC (.bl false))) (sNext)) (sSeq (sSet 2 (eComp [3] (iA (bV 1)) (gN 3) (tTrue) (eIndex (bV 0) (eCall C__law_issue (aC (eV 3) (aN)))))) (sRet (e2 gEq (eComp [4] (iR2 (eC (.int 1)) (e1 gLen (bV 2))) (gN 4) (tV (e2 gGe (e2 gIx (bV 2) (e2 gSub (bV 4) (eC (.int 1)))) (e2 gIx (bV 2) (bV 4)))) (eV 4)) (eLst (aN)))))
def C__law_is_view : List D → R D := fun ds => toR (B__law_is_view (startE 5 ds))
def B__law_due : FS := sSeq (sIf (fOr (fNot (tU (e1 (gIs "list") (bV 1)))) (tV (e2 gNe (eComp [3] (iA (bV 1)) (gN 3) (fOr (fNot (tU (eCall C__law_is_view (aC (eV 0) (aC (eV 3) (aN)))))) (tV (e2 gEq (bV 3) (eLst (aN))))) (eV 3)) (eLst (aN))))) (sRet (eC (.bl false))) (sNext)) (sSeq (sFor (iR1 (e1 gLen (bV 1))) (gN 2) (sSeq (sIf (fAnd (tV (e2 gGt (bV 2) (eC (.int 0)))) (tV (e2 gLe (eCall C__law_order (aC (e2 gIx (bV 1) (bV 2)) (aN))) (eCall C__law_order (aC (e2 gIx (bV 1) (e2 gSub (bV 2) (eC (.int 1)))) (aN)))))) (sRet (eC (.bl false))) (sNext)) (sIf (tV (e2 gNe (eComp [4] (iR1 (e1 gLen (bV 1))) (gN 4) (fAnd (tV (e2 gNe (bV 4) (bV 2))) (tU (eCall C__law_has (aC (e2 gIx (bV 1) (bV 2)) (aC (e2 gIx (bV 1) (bV 4)) (aN)))))) (eV 4)) (eLst (aN)))) (sRet (eC (.bl false))) (sNext)))) (sRet (eC (.bl true))))
def C__law_due : List D → R D := fun ds => toR (B__law_due (startE 5 ds))
def B__law_bent : FS := sSeq (sSetO 4 (eLst (aC (eV 0) (aC (e1 gRev (bV 0)) (aC (eSl gSl (bV 0) (oS (eC (.int 1))) (oN)) (aC (e1 gTuple (bV 0)) (aC (eC .non) (aC (eC (.int 5)) (aC (eC (.str "")) (aC (eDct false) (aC (eLst (aC (eLst (aN)) (aN))) (aC (e2 gAdd (bV 0) (eLst (aC (eLst (aN)) (aN)))) (aC (e2 gAdd (eLst (aC (eLst (aN)) (aN))) (bV 0)) (aC (e2 gAdd (bV 0) (eLst (aC (eC .non) (aN)))) (aC (eLst (aC (e2 gIx (bV 1) (eC (.int 0))) (aN))) (aC (eLst (aC (e1 gTuple (eSl gSl (bV 1) (oN) (oS (eC (.int 1))))) (aN))) (aN))))))))))))))))) (sSeq (sIf (tV (e2 gEq (bV 0) (eLst (aN)))) (sRet (e2 gAdd (bV 4) (eLst (aC (eLst (aC (eLst (aC (e2 gIx (bV 1) (eC (.int 0))) (aN))) (aN))) (aC (eLst (aC (eLst (aC (e2 gIx (bV 1) (e1 gNeg (eC (.int 1)))) (aN))) (aC (eLst (aC (e2 gAdd (eC (.str "!")) (e2 gIx (bV 1) (e1 gNeg (eC (.int 1))))) (aN))) (aN)))) (aC (eLst (aC (eLst (aC (e2 gAdd (eC (.str "!")) (e2 gIx (bV 1) (e1 gNeg (eC (.int 1))))) (aN))) (aC (eLst (aC (e2 gIx (bV 1) (e1 gNeg (eC (.int 1)))) (aN))) (aN)))) (aN))))))) (sNext)) (sSeq (sPar2 5 6 (aC (e2 gMod (e2 gIx (bV 3) (eC (.int 0))) (e1 gLen (bV 0))) (aC (e2 gMod (e2 gIx (bV 3) (eC (.int 1))) (e1 gLen (bV 0))) (aN)))) (sSeq (sSet 7 (e2 gIx (bV 0) (bV 5))) (sSeq (sFor (iA (eLst (aC (eSl gSl (bV 7) (oS (eC (.int 1))) (oN)) (aC (eSl gSl (bV 7) (oN) (oS (e1 gNeg (eC (.int 1))))) (aC (e2 gAdd (eLst (aC (eCall C__law_opposite (aC (e2 gIx (bV 7) (eC (.int 0))) (aN))) (aN))) (eSl gSl (bV 7) (oS (eC (.int 1))) (oN))) (aC (e2 gAdd (bV 7) (eLst (aC (eV 2) (aN)))) (aC (eLst (aC (eV 2) (aN))) (aC (e1 gTuple (bV 7)) (aC (eC .non) (aC (e2 gAdd (bV 7) (bV 7)) (aC (e1 gRev (bV 7)) (aC (eM1 gJoin (eC (.str "")) (bV 7)) (aC (eLst (aC (eC .non) (aN))) (aN)))))))))))))) (gN 8) (sApp 4 (e2 gAdd (e2 gAdd (eSl gSl (bV 0) (oN) (oS (eV 5))) (eLst (aC (eV 8) (aN)))) (eSl gSl (bV 0) (oS (e2 gAdd (bV 5) (eC (.int 1)))) (oN))))) (sSeq (sSet 9 (eComp [12] (iA (bV 1)) (gN 12) (fAnd (tV (e2 gNotIn (bV 12) (bV 7))) (tV (e2 gNotIn (e2 gAdd (eC (.str "!")) (bV 12)) (bV 7)))) (eV 12))) (sSeq (sIf (tV (e2 gNe (bV 9) (eLst (aN)))) (sSeq (sSet 10 (eCall C__law_view (aC (e2 gAdd (bV 7) (eLst (aC (e2 gIx (bV 9) (e2 gMod (e2 gIx (bV 3) (eC (.int 2))) (e1 gLen (bV 9)))) (aN)))) (aN)))) (sSetO 4 (e2 gCat (bV 4) (eLst (aC (eCall C__law_sort (aC (e2 gAdd (bV 0) (eLst (aC (eV 10) (aN)))) (aN))) (aC (e2 gAdd (e2 gAdd (eSl gSl (bV 0) (oN) (oS (eV 5))) (eLst (aC (eV 10) (aN)))) (eSl gSl (bV 0) (oS (e2 gAdd (bV 5) (eC (.int 1)))) (oN))) (aN))))))) (sNext)) (sSeq (sSetO 11 (e1 gList (bV 0))) (sSeq (sAsg (gT 2 (gsC (gP 11 (eV 5)) (gsC (gP 11 (eV 6)) (gsN)))) (eTup (aC (e2 gIx (bV 0) (bV 6)) (aC (e2 gIx (bV 0) (bV 5)) (aN))))) (sFrz 11 (sRet (e2 gAdd (bV 4) (eLst (aC (eV 11) (aC (e2 gAdd (e2 gAdd (eSl gSl (bV 0) (oN) (oS (eV 5))) (eLst (aC (eV 7) (aN)))) (eSl gSl (bV 0) (oS (eV 5)) (oN))) (aC (e2 gAdd (eSl gSl (bV 0) (oN) (oS (eV 5))) (eSl gSl (bV 0) (oS (e2 gAdd (bV 5) (eC (.int 1)))) (oN))) (aC (eLst (aC (eV 7) (aN))) (aN)))))))))))))))))
def C__law_bent : List D → R D := fun ds => toR (B__law_bent (startE 13 ds))
def B_law : FS := sSeq (sSet 1 (eCall C__law_numbers (aC (eV 0) (aC (eC (.int 0)) (aC (eC (.int 40)) (aN)))))) (sSeq (sAsg (gT 2 (gsC (gN 2) (gsC (gN 3) (gsN)))) (eCall C__law_agenda (aC (eV 0) (aC (eC (.int 1)) (aC (eC (.int 6)) (aN)))))) (sSeq (sSet 4 (eCall C__law_least (aC (eV 2) (aC (eCall C__law_hanging (aC (eV 3) (aN))) (aN))))) (sSeq (sSet 5 (eLst (aN))) (sSeq (sSet 6 (eSl gSl (eComp [8] (iA (eCall C__law_views (aC (eV 2) (aN)))) (gN 8) (tTrue) (e1 gList (bV 8))) (oS (eC (.int 1))) (oN))) (sSeq (sFor (iR1 (e2 gMod (e2 gIx (bV 1) (eC (.int 0))) (eC (.int 8)))) (gN 7) (sSeq (sSet 8 (e2 gIx (bV 6) (e2 gMod (e2 gAdd (e2 gMul (e2 gIx (bV 1) (e2 gAdd (eC (.int 1)) (bV 7))) (eC (.int 7))) (bV 7)) (e1 gLen (bV 6))))) (sIf (tV (e2 gEq (eComp [13] (iA (bV 5)) (gN 13) (fOr (tU (eCall C__law_has (aC (eV 13) (aC (eV 8) (aN))))) (tU (eCall C__law_has (aC (eV 8) (aC (eV 13) (aN)))))) (eV 13)) (eLst (aN)))) (sSet 5 (eCall C__law_sort (aC (e2 gAdd (bV 5) (eLst (aC (eV 8) (aN)))) (aN)))) (sNext)))) (sSeq (sSet 9 (eCall C__law_stranger (aC (eV 2) (aC (e2 gIx (bV 1) (eC (.int 10))) (aN))))) (sSeq (sFor (iA (eLst (aC (eSl gSl (bV 4) (oN) (oS (eC (.int 16)))) (aC (eV 5) (aC (eLst (aN)) (aN)))))) (gN 10) (sFor (iA (eCall C__law_bent (aC (eV 10) (aC (eV 2) (aC (eV 9) (aC (eSl gSl (bV 1) (oS (eC (.int 11))) (oS (eC (.int 14)))) (aN))))))) (gN 11) (sSeq (sSet 12 (eV 11)) (sSeq (sIf (tU (e1 (gIs "list") (bV 11))) (sSet 12 (e1 gList (bV 11))) (sNext)) (sIf (fOr (fNot (tU (eCall C__law_says (aC (eCall C_is_barring (aC (e1 gList (bV 2)) (aC (eV 12) (aN)))) (aC (eCall C__law_due (aC (eV 2) (aC (eV 11) (aN)))) (aN)))))) (tV (e2 gNe (bV 12) (bV 11)))) (sRet (eC (.bl false))) (sNext)))))) (sRet (eCall C__law_says (aC (eCall C_is_barring (aC (eV 2) (aC (eV 4) (aN)))) (aC (eC (.bl true)) (aN))))))))))))
def C_law : List D → R D := fun ds => toR (B_law (startE 14 ds))
end DL

namespace DL
open PySem PySem.Spec L2
open PyProof.Rows hiding St

/-! ### words -/
abbrev Wd := List Nat
def s (w : Wd) : D := .str ⟨w.toArray⟩
def ls (ws : List Wd) : D := .lst (ws.map s)
def tw (ws : List Wd) : D := .tup (ws.map s)
def is (ns : List Int) : D := .lst (ns.map .int)
theorem s_inj {a b : Wd} (h : s a = s b) : a = b := by
  unfold s at h; injection h with h; injection h with h; simpa using h
theorem s_app (a b : Wd) : (⟨a.toArray⟩ ++ ⟨b.toArray⟩ : Str) = ⟨(a ++ b).toArray⟩ := by
  show Str.mk _ = _
  congr 1
  simp
theorem s_len (a : Wd) : (⟨a.toArray⟩ : Str).length = a.length := by
  show Array.size _ = _
  simp
@[simp] theorem pl_s (n : Nat) (a : Wd) : pl n (s a) = true := by cases n <;> rfl
@[simp] theorem isE_s (a : Wd) : isE (s a) = false := rfl
@[simp] theorem isNon_s (a : Wd) : isNon (s a) = false := rfl
@[simp] theorem deq_s (a b : Wd) : deq (s a) (s b) = decide (a = b) := by
  unfold deq s
  simp only [P, PyData.eqv]
  rw [Bool.eq_iff_iff]
  simp
@[simp] theorem dlt_s (a b : Wd) : dlt (s a) (s b) = decide (a < b) := by
  unfold dlt s
  simp only [P, PySem.W.dataLt_str]
@[simp] theorem dal_s (a b : Wd) : dal (s a) (s b) = true := rfl
@[simp] theorem gEq_s (a b : Wd) : gEq (s a) (s b) = ok (.bl (decide (a = b))) := by simp [gEq]
@[simp] theorem gNe_s (a b : Wd) : gNe (s a) (s b) = ok (.bl (!decide (a = b))) := by simp [gNe]
@[simp] theorem gLt_s (a b : Wd) : gLt (s a) (s b) = ok (.bl (decide (a < b))) := by simp [gLt, gOrd]
@[simp] theorem gGt_i (a b : Int) : gGt (.int a) (.int b) = ok (.bl (decide (b < a))) := by simp [gGt, gOrd, pl, dal, P, PySem.W.alike, isNon, dlt, PySem.W.dataLt_int]
@[simp] theorem gLt_i (a b : Int) : gLt (.int a) (.int b) = ok (.bl (decide (a < b))) := by simp [gLt, gOrd, pl, dal, P, PySem.W.alike, isNon, dlt, PySem.W.dataLt_int]
@[simp] theorem gGe_i (a b : Int) : gGe (.int a) (.int b) = ok (.bl (decide (b ≤ a))) := by
  simp [gGe, gOrd, pl, dal, P, PySem.W.alike, isNon, dlt, PySem.W.dataLt_int]
  rw [← decide_not]; congr 1; exact propext (by omega)
@[simp] theorem gLe_i (a b : Int) : gLe (.int a) (.int b) = ok (.bl (decide (a ≤ b))) := by
  simp [gLe, gOrd, pl, dal, P, PySem.W.alike, isNon, dlt, PySem.W.dataLt_int]
  rw [← decide_not]; congr 1; exact propext (by omega)
theorem deq_i (a b : Int) : deq (.int a) (.int b) = decide (a = b) := by
  unfold deq; simp only [P, PyData.eqv]; rw [Bool.eq_iff_iff]; simp
@[simp] theorem gEq_i (a b : Int) : gEq (.int a) (.int b) = ok (.bl (decide (a = b))) := by
  simp [gEq, isE, pl, deq_i]
@[simp] theorem gNe_i (a b : Int) : gNe (.int a) (.int b) = ok (.bl (!decide (a = b))) := by
  simp [gNe, isE, pl, deq_i]
theorem gIx_s (w : Wd) (i : Int) (h : w.length ≤ 16777216) : gIx (s w) (.int i) = (atI w i).elim none fun c => ok (s [c]) := by
  unfold gIx s
  simp only [s_len, h, if_true]
@[simp] theorem gIx_s0 (c : Nat) (w : Wd) (h : w.length < 16777216) : gIx (s (c :: w)) (.int 0) = ok (s [c]) := by
  rw [gIx_s _ _ (by simp; omega)]
  simp [atI, ixN]
theorem sIx_n (n d : Nat) (k : Nat) : HT.sIx n d (some (k : Int)) = min k n := HT.sIx_nat n d k
theorem cutL_from {α : Type} (xs : List α) (k : Nat) : cutL xs (some (k : Int)) none = xs.drop k := by
  unfold cutL
  rw [sIx_n, HT.sIx_none]
  rcases Nat.le_total k xs.length with h | h
  · rw [Nat.min_eq_left h]
    exact List.take_of_length_le (by simp)
  · rw [Nat.min_eq_right h, List.drop_length, List.drop_eq_nil_of_le h]; simp
theorem cutL_to {α : Type} (xs : List α) (k : Nat) : cutL xs none (some (k : Int)) = xs.take k := by
  unfold cutL
  rw [sIx_n, HT.sIx_none]
  simp only [List.drop_zero, Nat.sub_zero]
  rcases Nat.le_total k xs.length with h | h
  · rw [Nat.min_eq_left h]
  · rw [Nat.min_eq_right h, List.take_length, List.take_of_length_le h]
@[simp] theorem cutL_1 {α : Type} (xs : List α) : cutL xs (some 1) none = xs.tail := (cutL_from xs 1).trans (List.drop_one)
theorem cutS_cut (w : Wd) (lo hi : Option Int) : cutS ⟨w.toArray⟩ lo hi = ⟨(cutL w lo hi).toArray⟩ := by
  unfold cutS cutL
  simp [Str.length]
@[simp] theorem gSl_s (w : Wd) (lo hi : Option Int) (h : w.length ≤ 16777216) : gSl (s w) lo hi = ok (s (cutL w lo hi)) := by
  unfold gSl s
  simp only [s_len, h, if_true, cutS_cut]
/-! ### steps -/
@[simp] theorem sSeq_e (f g : FS) (e : En) : sSeq f g e = match f e with | some (.nx e') => g e' | r => r := rfl
@[simp] theorem sRet_e (f : En → R D) (e : En) : sRet f e = sE (f e) e fun d => some (.rt d) := rfl
@[simp] theorem sRetF_e (f : En → R D) (e : En) : sRetF f e = sE (f e) e fun d => some (.rf d) := rfl
@[simp] theorem sNext_e (e : En) : sNext e = some (.nx e) := rfl
@[simp] theorem sIf_e (c : En → R Bool) (f g : FS) (e : En) : sIf c f g e = sE (c e) e fun b => if b = true then f e else g e := rfl
@[simp] theorem sSet_e (i : Nat) (f : En → R D) (e : En) : sSet i f e = sE (f e) e fun d => some (.nx (e.set i (.fz d))) := rfl
@[simp] theorem sSetO_e (i : Nat) (f : En → R D) (e : En) : sSetO i f e = sE (f e) e fun d => some (.nx (e.set i (.ow d))) := rfl
@[simp] theorem eCall_e (C : List D → R D) (fs : En → R (List D)) (e : En) : eCall C fs e = bR (fs e) C := rfl
@[simp] theorem aN_e (e : En) : aN e = ok [] := rfl
@[simp] theorem aC_e (f : En → R D) (r : En → R (List D)) (e : En) : aC f r e = bR (f e) fun d => bR (r e) fun ds => ok (d :: ds) := rfl
@[simp] theorem eV_e (i : Nat) (e : En) : eV i e = match e[i]? with | some (.fz d) => ok d | _ => none := rfl
@[simp] theorem bV_e (i : Nat) (e : En) : bV i e = match e[i]? with | some (.fz d) => ok d | some (.ow d) => ok d | _ => none := rfl
@[simp] theorem eC_e (d : D) (e : En) : eC d e = ok d := rfl
@[simp] theorem e1_e (g : D → R D) (f : En → R D) (e : En) : e1 g f e = bR (f e) g := rfl
@[simp] theorem e2_e (g : D → D → R D) (f f' : En → R D) (e : En) : e2 g f f' e = bR (f e) fun x => bR (f' e) fun y => g x y := rfl
@[simp] theorem tU_e (f : En → R D) (e : En) : tU f e = bR (f e) tru := rfl
@[simp] theorem tV_e (f : En → R D) (e : En) : tV f e = bR (f e) asB := rfl
@[simp] theorem asB_bl (b : Bool) : asB (.bl b) = ok b := rfl
@[simp] theorem tru_bl (b : Bool) : tru (.bl b) = ok b := rfl
@[simp] theorem eNot_e (f : En → R D) (e : En) : eNot f e = bR (f e) fun d => bR (tru d) fun b => ok (.bl (!b)) := rfl
@[simp] theorem eTup_e (f : En → R (List D)) (e : En) : eTup f e = bR (f e) fun ds => if ds.length ≤ 1000 then ok (.tup ds) else none := rfl
@[simp] theorem eLst_e (f : En → R (List D)) (e : En) : eLst f e = bR (f e) fun ds => if ds.length ≤ 1000 then ok (.lst ds) else none := rfl
@[simp] theorem eSl_e (g : D → Option Int → Option Int → R D) (fa : En → R D) (fl fh : FO) (e : En) : eSl g fa fl fh e = bR (fa e) fun x => bR (fl e) fun l => bR (fh e) fun h => g x l h := rfl
@[simp] theorem oN_e (e : En) : oN e = ok none := rfl
@[simp] theorem oS_e (f : En → R D) (e : En) : oS f e = bR (f e) fun d => match d with | .int i => ok (some i) | _ => none := rfl
@[simp] theorem toR_rt (d : D) : toR (some (.rt d)) = ok d := rfl
@[simp] theorem toRF_rf (d : D) : toRF (some (.rf d)) = ok d := rfl

theorem lit1 : (D.str "!") = s [33] := by rfl
def isY (w : Wd) : Bool := decide (w.head? ≠ some 33)
def iss (w : Wd) : Wd := if w.head? = some 33 then w.tail else w
theorem c_is_yes (w : Wd) (h : w ≠ []) (hl : w.length ≤ 1000) : C_is_yes [s w] = ok (.bl (isY w)) := by
  cases w with
  | nil => exact absurd rfl h
  | cons c w =>
    have : w.length < 16777216 := by simp at hl; omega
    simp [C_is_yes, B_is_yes, startE, lit1, this, isY]
theorem c_issue_of (w : Wd) (h : w ≠ []) (hl : w.length ≤ 1000) : C_issue_of [s w] = ok (s (iss w)) := by
  have : w.length ≤ 16777216 := by omega
  simp [C_issue_of, B_issue_of, startE, c_is_yes w h hl]
  by_cases q : w.head? = some 33
  · simp [isY, q, this, iss]
  · simp [isY, q, iss]

/-! ### comprehensions -/
theorem compL_map {α : Type} {own : List Nat} {tg : FG} {cond : En → R Bool} {elt : En → R D} {e : En} (enc : α → D) (p : α → Bool) (f : α → D) : ∀ (xs : List α),
    (∀ a ∈ xs, ∃ e1, tg (enc a) (wipeE e own) = some e1 ∧ cond e1 = ok (p a) ∧ (p a = true → elt e1 = ok (f a))) → compL own tg cond elt e (xs.map enc) = some ((xs.filter p).map f)
  | [], _ => rfl
  | a :: xs, h => by
    obtain ⟨e1, h1, h2, h3⟩ := h a (by simp)
    have ih := compL_map enc p f xs fun b hb => h b (by simp [hb])
    simp only [List.map_cons, compL, h1, h2, ih]
    cases q : p a with
    | true => simp [h3 q, q]
    | false => simp [q]
theorem eComp_map {α : Type} {own : List Nat} {it : FI} {tg : FG} {cond : En → R Bool} {elt : En → R D} {e : En} (enc : α → D) (p : α → Bool) (f : α → D) (xs : List α) (hi : it e = ok (xs.map enc))
    (h : ∀ a ∈ xs, ∃ e1, tg (enc a) (wipeE e own) = some e1 ∧ cond e1 = ok (p a) ∧ (p a = true → elt e1 = ok (f a))) : eComp own it tg cond elt e = ok (.lst ((xs.filter p).map f)) := by
  unfold eComp
  rw [hi, bR_ok, compL_map enc p f xs h]
  rfl
/-- without a test -/
theorem eComp_all {α : Type} {own : List Nat} {it : FI} {tg : FG} {elt : En → R D} {e : En} (enc : α → D) (f : α → D) (xs : List α) (hi : it e = ok (xs.map enc))
    (h : ∀ a ∈ xs, ∃ e1, tg (enc a) (wipeE e own) = some e1 ∧ elt e1 = ok (f a)) : eComp own it tg tTrue elt e = ok (.lst (xs.map f)) := by
  have := eComp_map (cond := tTrue) enc (fun _ => true) f xs hi fun a ha => let ⟨e1, h1, h2⟩ := h a ha; ⟨e1, h1, rfl, fun _ => h2⟩
  rw [this, List.filter_eq_self.mpr (fun _ _ => rfl)]
@[simp] theorem iA_e (f : En → R D) (e : En) : iA f e = bR (f e) items := rfl
@[simp] theorem items_lst (xs : List D) : items (.lst xs) = ok xs := rfl
@[simp] theorem items_tup (xs : List D) : items (.tup xs) = ok xs := rfl
@[simp] theorem gN_e (i : Nat) (d : D) (e : En) : gN i d e = some (e.set i (.fz d)) := rfl
@[simp] theorem wipe_0 (e : En) : wipeE e [] = e := rfl
@[simp] theorem wipe_1 (e : En) (v : Nat) (vs : List Nat) : wipeE e (v :: vs) = (wipeE e vs).set v .un := rfl
@[simp] theorem blsOf_map {α : Type} (g : α → Bool) : ∀ xs : List α, blsOf (xs.map fun a => .bl (g a)) = some (xs.map g)
  | [] => rfl
  | a :: xs => by simp [blsOf, blsOf_map g xs]
@[simp] theorem gAll_map {α : Type} (g : α → Bool) (xs : List α) : gAll (.lst (xs.map fun a => .bl (g a))) = ok (.bl (xs.all g)) := by
  simp [gAll, List.all_map, Function.comp_def]
@[simp] theorem gAny_map {α : Type} (g : α → Bool) (xs : List α) : gAny (.lst (xs.map fun a => .bl (g a))) = ok (.bl (xs.any g)) := by
  simp [gAny, List.any_map, Function.comp_def]

/-! ### the order of verdicts -/
def plc (w : Wd) : D := .tup [s (iss w), .bl (!isY w)]
/-- a verdict: nonempty, short -/
def Vd (w : Wd) : Prop := w ≠ [] ∧ w.length ≤ 1000
theorem c_place_of (w : Wd) (h : Vd w) : C_place_of [s w] = ok (plc w) := by
  simp [C_place_of, B_place_of, startE, c_is_yes w h.1 h.2, c_issue_of w h.1 h.2, plc]
theorem c_order_of (ws : List Wd) (h : ∀ w ∈ ws, Vd w) : C_order_of [ls ws] = ok (.lst (ws.map plc)) := by
  have := eComp_all (own := [1]) (it := iA (bV 0)) (tg := gN 1) (elt := eCall C_place_of (aC (eV 1) aN)) (e := [.fz (ls ws), .un]) s plc ws (by simp [ls]) fun w hw => ⟨[.fz (ls ws), .fz (s w)], by simp, by simp [c_place_of w (h w hw)]⟩
  simp [C_order_of, B_order_of, startE, this]
end DL

namespace DL
open PySem PySem.Spec L2
open PyProof.Rows hiding St

/-! ### orders of lists -/
def lexB {α : Type} (eq lt : α → α → Bool) : List α → List α → Bool
  | [], [] => false
  | [], _ :: _ => true
  | _ :: _, [] => false
  | x :: xs, y :: ys => if eq x y = true then lexB eq lt xs ys else lt x y
theorem toks_map {α : Type} (enc : α → D) (ha : ∀ x y, dal (enc x) (enc y) = true) : ∀ xs ys : List α,
    PyProof.Rows.lexLt itemOrd (PySem.W.keyToksAll (PL (xs.map enc))) (PySem.W.keyToksAll (PL (ys.map enc))) = lexB (fun x y => deq (enc x) (enc y)) (fun x y => dlt (enc x) (enc y)) xs ys
  | [], [] => by simp [PL, PySem.W.keyToksAll, lexB]; decide
  | [], y :: ys => by simp [PL, PySem.W.keyToksAll, lexB]; rfl
  | x :: xs, [] => by simp [PL, PySem.W.keyToksAll, lexB]; rfl
  | x :: xs, y :: ys => by
    simp only [List.map_cons, PL, lexB]
    rw [PySem.W.dataLt_cons (ha x y), toks_map enc ha xs ys]
    rfl
theorem alikeAll_map {α : Type} (enc : α → D) (ha : ∀ x y, dal (enc x) (enc y) = true) : ∀ xs ys : List α, PySem.W.alikeAll (PL (xs.map enc)) (PL (ys.map enc)) = true
  | [], _ => by simp [PL, PySem.W.alikeAll]
  | _ :: _, [] => by simp [PL, PySem.W.alikeAll]
  | x :: xs, y :: ys => by
    have := ha x y
    unfold dal at this
    simp [PL, PySem.W.alikeAll, this, alikeAll_map enc ha xs ys]
theorem eqvAll_map {α : Type} (enc : α → D) : ∀ xs ys : List α, PyData.eqvAll (PL (xs.map enc)) (PL (ys.map enc)) = true ↔ (xs.length = ys.length ∧ ∀ z ∈ xs.zip ys, deq (enc z.1) (enc z.2) = true)
  | [], [] => by simp [PL, PyData.eqvAll]
  | [], y :: ys => by simp [PL, PyData.eqvAll]
  | x :: xs, [] => by simp [PL, PyData.eqvAll]
  | x :: xs, y :: ys => by
    have ih := eqvAll_map enc xs ys
    simp only [List.map_cons, PL, PyData.eqvAll, Bool.and_eq_true, ih, List.length_cons, List.zip_cons_cons, List.mem_cons, forall_eq_or_imp, Nat.add_right_cancel_iff]
    unfold deq
    constructor
    · rintro ⟨a, b, c⟩; exact ⟨b, a, c⟩
    · rintro ⟨b, a, c⟩; exact ⟨a, b, c⟩
/-- equality of the lists is equality of the things -/
theorem deq_lst {α : Type} [DecidableEq α] (enc : α → D) (hi : ∀ x y, deq (enc x) (enc y) = decide (x = y)) (xs ys : List α) : deq (.lst (xs.map enc)) (.lst (ys.map enc)) = decide (xs = ys) := by
  unfold deq
  simp only [P, PyData.eqv]
  rw [Bool.eq_iff_iff, eqvAll_map, decide_eq_true_eq]
  constructor
  · rintro ⟨h1, h2⟩
    apply List.ext_getElem h1
    intro i a b
    have := h2 (xs[i], ys[i]) (List.mem_iff_getElem.mpr ⟨i, by simp; omega, by simp⟩)
    rw [hi] at this
    simpa using this
  · rintro rfl
    refine ⟨rfl, fun z hz => ?_⟩
    rw [hi]
    have : z.1 = z.2 := by
      obtain ⟨i, h1, h2⟩ := List.mem_iff_getElem.mp hz
      rw [← h2]; simp
    simpa using this
theorem deq_tup {α : Type} [DecidableEq α] (enc : α → D) (hi : ∀ x y, deq (enc x) (enc y) = decide (x = y)) (xs ys : List α) : deq (.tup (xs.map enc)) (.tup (ys.map enc)) = decide (xs = ys) := by
  have := deq_lst enc hi xs ys
  unfold deq at this ⊢
  simpa only [P, PyData.eqv] using this
@[simp] theorem deq_ls (a b : List Wd) : deq (ls a) (ls b) = decide (a = b) := deq_lst s deq_s a b
@[simp] theorem deq_tw (a b : List Wd) : deq (tw a) (tw b) = decide (a = b) := deq_tup s deq_s a b
theorem dlt_lst {α : Type} (enc : α → D) (ha : ∀ x y, dal (enc x) (enc y) = true) (xs ys : List α) : dlt (.lst (xs.map enc)) (.lst (ys.map enc)) = lexB (fun x y => deq (enc x) (enc y)) (fun x y => dlt (enc x) (enc y)) xs ys := by
  unfold dlt
  simp only [P, PySem.W.dataLt_list]
  exact toks_map enc ha xs ys
theorem dal_lst {α : Type} (enc : α → D) (ha : ∀ x y, dal (enc x) (enc y) = true) (xs ys : List α) : dal (.lst (xs.map enc)) (.lst (ys.map enc)) = true := by
  unfold dal
  simp only [P, PySem.W.alike]
  exact alikeAll_map enc ha xs ys
@[simp] theorem dal_ls (a b : List Wd) : dal (ls a) (ls b) = true := dal_lst s dal_s a b
theorem pl_lst {α : Type} (enc : α → D) (n : Nat) (h : ∀ x, pl n (enc x) = true) (xs : List α) : pl (n + 1) (.lst (xs.map enc)) = true := by
  simp [pl, h]
theorem pl_tup {α : Type} (enc : α → D) (n : Nat) (h : ∀ x, pl n (enc x) = true) (xs : List α) : pl (n + 1) (.tup (xs.map enc)) = true := by
  simp [pl, h]
@[simp] theorem pl_ls (n : Nat) (a : List Wd) : pl (n + 1) (ls a) = true := pl_lst s n (pl_s n) a
@[simp] theorem pl_tw (n : Nat) (a : List Wd) : pl (n + 1) (tw a) = true := pl_tup s n (pl_s n) a
@[simp] theorem isE_ls (a : List Wd) : isE (ls a) = false := rfl
@[simp] theorem isE_lst (a : List D) : isE (.lst a) = false := rfl
@[simp] theorem gEq_ls (a b : List Wd) : gEq (ls a) (ls b) = ok (.bl (decide (a = b))) := by simp [gEq]
@[simp] theorem gNe_ls (a b : List Wd) : gNe (ls a) (ls b) = ok (.bl (!decide (a = b))) := by simp [gNe]
theorem din_map {α : Type} [DecidableEq α] (enc : α → D) (hi : ∀ x y, deq (enc x) (enc y) = decide (x = y)) (x : α) (ys : List α) : din (enc x) (ys.map enc) = decide (x ∈ ys) := by
  unfold din
  rw [List.any_map, Bool.eq_iff_iff]
  simp [hi, List.any_eq_true]
@[simp] theorem gIn_s (w : Wd) (ws : List Wd) : gIn (s w) (ls ws) = ok (.bl (decide (w ∈ ws))) := by
  show (if _ then _ else _) = _
  rw [if_pos ⟨pl_s 8 w, by rw [List.all_map]; simp⟩, din_map s deq_s]
  exact congrArg (fun b => ok (D.bl b)) (decide_eq_decide.mpr Iff.rfl)
@[simp] theorem gNotIn_s (w : Wd) (ws : List Wd) : gNotIn (s w) (ls ws) = ok (.bl (!decide (w ∈ ws))) := by
  unfold gNotIn
  rw [gIn_s]; rfl

/-- place by place -/
def ltP (x y : Wd) : Bool := if iss x = iss y then isY x && !isY y else decide (iss x < iss y)
def eqP (x y : Wd) : Bool := decide (iss x = iss y) && isY x == isY y
theorem deq_bl (a b : Bool) : deq (.bl a) (.bl b) = (a == b) := by
  unfold deq; simp only [P, PyData.eqv]
theorem dlt_bl (a b : Bool) : dlt (.bl a) (.bl b) = (!a && b) := by
  unfold dlt; simp only [P, PySem.W.dataLt_bool]
  cases a <;> cases b <;> decide
theorem dal_pair {a b c d : D} (h : dal a c = true) (h' : dal b d = true) : dal (.tup [a, b]) (.tup [c, d]) = true := by
  unfold dal at *
  simp [P, PL, PySem.W.alike, PySem.W.alikeAll, h, h']
theorem dlt_pair {a b c d : D} (h : dal a c = true) (h' : dal b d = true) : dlt (.tup [a, b]) (.tup [c, d]) = if deq a c = true then (if deq b d = true then false else dlt b d) else dlt a c := by
  unfold dlt
  simp only [P, PL]
  rw [PySem.W.dataLt_pair h h']
  rfl
theorem deq_pair {a b c d : D} : deq (.tup [a, b]) (.tup [c, d]) = (deq a c && deq b d) := by
  unfold deq
  simp [P, PL, PyData.eqv, PyData.eqvAll]
theorem dal_plc (x y : Wd) : dal (plc x) (plc y) = true := dal_pair (dal_s _ _) rfl
theorem dlt_plc (x y : Wd) : dlt (plc x) (plc y) = ltP x y := by
  unfold plc
  rw [dlt_pair (dal_s _ _) rfl, deq_s, deq_bl, dlt_bl, dlt_s]
  unfold ltP
  by_cases h : iss x = iss y
  · cases isY x <;> cases isY y <;> simp [h]
  · simp [h]
theorem deq_plc (x y : Wd) : deq (plc x) (plc y) = eqP x y := by
  unfold plc eqP
  rw [deq_pair, deq_s, deq_bl]
  cases isY x <;> cases isY y <;> simp
def ltV (a b : List Wd) : Bool := lexB eqP ltP a b
theorem dlt_ord (a b : List Wd) : dlt (.lst (a.map plc)) (.lst (b.map plc)) = ltV a b := by
  rw [dlt_lst plc dal_plc]
  unfold ltV
  simp only [deq_plc, dlt_plc]

/-! ### ascending -/
def ascB {α : Type} (lt : α → α → Bool) : List α → Bool
  | x :: y :: r => lt x y && ascB lt (y :: r)
  | _ => true
theorem zip_tail {α : Type} (enc : α → D) : ∀ xs : List α, zipD (xs.map enc) (xs.map enc).tail = (xs.zip xs.tail).map fun z => .tup [enc z.1, enc z.2]
  | [] => rfl
  | [x] => rfl
  | x :: y :: r => by
    have ih := zip_tail enc (y :: r)
    simp only [List.map_cons, List.tail_cons, zipD, List.zip_cons_cons] at ih ⊢
    rw [ih]
theorem all_zip {α : Type} (lt : α → α → Bool) : ∀ xs : List α, ((xs.zip xs.tail).all fun z => lt z.1 z.2) = ascB lt xs
  | [] => rfl
  | [x] => rfl
  | x :: y :: r => by
    have ih := all_zip lt (y :: r)
    simp only [List.tail_cons, List.zip_cons_cons, List.all_cons, ascB] at ih ⊢
    rw [ih]
@[simp] theorem gSl_lst (xs : List D) (lo hi : Option Int) : gSl (.lst xs) lo hi = ok (.lst (cutL xs lo hi)) := rfl
@[simp] theorem iZ_e (f g : En → R D) (e : En) : iZ f g e = bR (f e) fun d => bR (g e) fun d' => match d, d' with
  | .lst xs, .lst ys => ok (zipD xs ys)
  | .tup xs, .tup ys => ok (zipD xs ys)
  | _, _ => none := rfl
@[simp] theorem gT_e (n : Nat) (r : FGs) (d : D) (e : En) : gT n r d e = match d with
  | .tup ds => if ds.length = n then r ds e else none
  | _ => none := rfl
@[simp] theorem gsC_c (g : FG) (r : FGs) (d : D) (ds : List D) (e : En) : gsC g r (d :: ds) e = (g d e).elim none (r ds) := rfl
@[simp] theorem gsN_n (e : En) : gsN [] e = some e := rfl
theorem c_ascending {α : Type} (enc : α → D) (h8 : ∀ x, pl 8 (enc x) = true) (ha : ∀ x y, dal (enc x) (enc y) = true) (hn : ∀ x, isNon (enc x) = false) (xs : List α) :
    C_is_ascending [.lst (xs.map enc)] = ok (.bl (ascB (fun x y => dlt (enc x) (enc y)) xs)) := by
  have := eComp_all (own := [1, 2]) (it := iZ (eV 0) (eSl gSl (bV 0) (oS (eC (.int 1))) (oN))) (tg := gT 2 (gsC (gN 1) (gsC (gN 2) (gsN)))) (elt := e2 gLt (bV 1) (bV 2)) (e := [.fz (.lst (xs.map enc)), .un, .un])
    (fun z : α × α => .tup [enc z.1, enc z.2]) (fun z => .bl (dlt (enc z.1) (enc z.2))) (xs.zip xs.tail) (by simp [zip_tail]) fun z hz => ⟨[.fz (.lst (xs.map enc)), .fz (enc z.1), .fz (enc z.2)], by simp, by simp [gLt, gOrd, h8, ha, hn]⟩
  simp [C_is_ascending, B_is_ascending, startE, this, all_zip (fun x y => dlt (enc x) (enc y))]
def ltW (a b : Wd) : Bool := decide (a < b)
theorem c_asc_ls (ws : List Wd) : C_is_ascending [ls ws] = ok (.bl (ascB ltW ws)) := by
  have := c_ascending s (pl_s 8) dal_s isNon_s ws
  simp only [dlt_s] at this
  exact this
theorem c_asc_ord (vs : List (List Wd)) : C_is_ascending [.lst (vs.map fun v => .lst (v.map plc))] = ok (.bl (ascB ltV vs)) := by
  have := c_ascending (fun v : List Wd => .lst (v.map plc)) (fun v => pl_lst plc 7 (fun x => by simp [plc, pl]) v) (fun v u => dal_lst plc dal_plc v u) (fun _ => rfl) vs
  simpa only [dlt_ord] using this
end DL

namespace DL
open PySem PySem.Spec L2
open PyProof.Rows hiding St

/-! ### values that are looked at -/
inductive It where
  | w (a : Wd) | no
inductive Vw where
  | l (xs : List It) | t (xs : List It) | a (x : It)
inductive Va where
  | l (vs : List Vw) | t (vs : List Vw) | a (x : It) | i (n : Int) | e
def It.d : It → D
  | .w a => s a
  | .no => .non
def Vw.d : Vw → D
  | .l xs => .lst (xs.map It.d)
  | .t xs => .tup (xs.map It.d)
  | .a x => x.d
def Va.d : Va → D
  | .l vs => .lst (vs.map Vw.d)
  | .t vs => .tup (vs.map Vw.d)
  | .a x => x.d
  | .i n => .int n
  | .e => .dct false [] []
/-- short -/
def It.ok : It → Prop
  | .w a => a.length ≤ 1000
  | .no => True
def Vw.ok : Vw → Prop
  | .l xs => ∀ x ∈ xs, x.ok
  | .t xs => ∀ x ∈ xs, x.ok
  | .a x => x.ok
def Va.ok : Va → Prop
  | .l vs => ∀ v ∈ vs, v.ok
  | _ => True
@[simp] theorem fOr_e (f g : En → R Bool) (e : En) : fOr f g e = bR (f e) fun b => if b = true then DL.ok true else g e := rfl
@[simp] theorem fAnd_e (f g : En → R Bool) (e : En) : fAnd f g e = bR (f e) fun b => if b = true then g e else DL.ok false := rfl
@[simp] theorem fNot_e (f : En → R Bool) (e : En) : fNot f e = bR (f e) fun b => DL.ok (!b) := rfl
@[simp] theorem eAnd_e (f g : En → R D) (e : En) : eAnd f g e = bR (f e) fun d => bR (asB d) fun b => if b = true then g e else DL.ok (.bl false) := rfl
@[simp] theorem eOr_e (f g : En → R D) (e : En) : eOr f g e = bR (f e) fun d => bR (asB d) fun b => if b = true then DL.ok (.bl true) else g e := rfl
@[simp] theorem gIs_s (t : String) (a : Wd) : gIs t (s a) = DL.ok (.bl ("str" == t || ("str" == "bool" && t == "int"))) := rfl
@[simp] theorem gIs_non (t : String) : gIs t .non = DL.ok (.bl ("NoneType" == t || ("NoneType" == "bool" && t == "int"))) := rfl
@[simp] theorem gIs_lst (t : String) (xs : List D) : gIs t (.lst xs) = DL.ok (.bl ("list" == t || ("list" == "bool" && t == "int"))) := rfl
@[simp] theorem gIs_tup (t : String) (xs : List D) : gIs t (.tup xs) = DL.ok (.bl ("tuple" == t || ("tuple" == "bool" && t == "int"))) := rfl
@[simp] theorem gIs_int (t : String) (n : Int) : gIs t (.int n) = DL.ok (.bl ("int" == t || ("int" == "bool" && t == "int"))) := rfl
@[simp] theorem gIs_bl (t : String) (n : Bool) : gIs t (.bl n) = DL.ok (.bl ("bool" == t || ("bool" == "bool" && t == "int"))) := rfl
@[simp] theorem gIs_dct (t : String) (b : Bool) (xs ys : List D) : gIs t (.dct b xs ys) = DL.ok (.bl ("dict" == t || ("dict" == "bool" && t == "int"))) := rfl
theorem tru_s (a : Wd) (h : a.length ≤ 16777216) : tru (s a) = DL.ok (!a.isEmpty) := by
  unfold tru s
  simp only [s_len, h, if_true]
  cases a with
  | nil => rfl
  | cons c a =>
    have : ((a.length : Int) + 1 != 0) = true := by
      rw [bne_iff_ne]; omega
    simp [this]
def vOK (issues : List Wd) : It → Bool
  | .w a => !a.isEmpty && decide (iss a ∈ issues)
  | .no => false
theorem c_is_verdict (issues : List Wd) (x : It) (h : x.ok) : C_is_verdict [ls issues, x.d] = ok (.bl (vOK issues x)) := by
  cases x with
  | no => simp [C_is_verdict, B_is_verdict, startE, It.d, vOK]
  | w a =>
    have hl : a.length ≤ 1000 := h
    have : a.length ≤ 16777216 := by omega
    by_cases q : a = []
    · subst q
      simp [C_is_verdict, B_is_verdict, startE, It.d, vOK, tru_s]
    · have q2 : a.isEmpty = false := by cases a <;> simp at q ⊢
      simp [C_is_verdict, B_is_verdict, startE, It.d, vOK, tru_s, this, q2, c_issue_of a q hl]
def word : It → Wd
  | .w a => a
  | .no => []
def words (xs : List It) : List Wd := xs.map word
theorem vOK_w {issues : List Wd} {x : It} (h : vOK issues x = true) : x = .w (word x) ∧ word x ≠ [] ∧ iss (word x) ∈ issues := by
  cases x with
  | no => simp [vOK] at h
  | w a =>
    simp [vOK] at h
    exact ⟨rfl, h.1, h.2⟩
theorem words_eq {issues : List Wd} {xs : List It} (h : xs.all (vOK issues) = true) : xs.map It.d = (words xs).map s := by
  unfold words
  rw [List.map_map]
  apply List.map_congr_left
  intro x hx
  rw [List.all_eq_true] at h
  obtain ⟨e, _⟩ := vOK_w (h x hx)
  rw [e]; rfl
/-- nonempty words, their issues there and ascending -/
def vwB (issues : List Wd) (ws : List Wd) : Bool := ascB ltW (ws.map iss)
def vwOK (issues : List Wd) : Vw → Bool
  | .l xs => xs.all (vOK issues) && vwB issues (words xs)
  | _ => false
theorem words_vd {issues : List Wd} {xs : List It} (h : xs.all (vOK issues) = true) (ho : ∀ x ∈ xs, x.ok) : ∀ w ∈ words xs, Vd w := by
  intro w hw
  obtain ⟨x, hx, rfl⟩ := List.mem_map.mp hw
  rw [List.all_eq_true] at h
  obtain ⟨e, h1, _⟩ := vOK_w (h x hx)
  have := ho x hx
  rw [e] at this
  exact ⟨h1, this⟩
theorem c_is_view_of (issues : List Wd) (v : Vw) (h : v.ok) : C_is_view_of [ls issues, v.d] = ok (.bl (vwOK issues v)) := by
  cases v with
  | t xs => simp [C_is_view_of, B_is_view_of, startE, Vw.d, vwOK]
  | a x => cases x <;> simp [C_is_view_of, B_is_view_of, startE, Vw.d, It.d, vwOK]
  | l xs =>
    have h1 := eComp_all (own := [2]) (it := iA (bV 1)) (tg := gN 2) (elt := eCall C_is_verdict (aC (eV 0) (aC (eV 2) (aN)))) (e := [.fz (ls issues), .fz (.lst (xs.map It.d)), .un]) It.d (fun x => .bl (vOK issues x)) xs (by simp) fun x hx =>
      ⟨[.fz (ls issues), .fz (.lst (xs.map It.d)), .fz x.d], by simp, by simp [c_is_verdict issues x (h x hx)]⟩
    by_cases q : xs.all (vOK issues) = true
    · have hv := words_vd q h
      have h2 := eComp_all (own := [2]) (it := iA (bV 1)) (tg := gN 2) (elt := eCall C_issue_of (aC (eV 2) (aN))) (e := [.fz (ls issues), .fz (.lst (xs.map It.d)), .un]) s (fun w => s (iss w)) (words xs) (by simp [words_eq q]) fun w hw =>
        ⟨[.fz (ls issues), .fz (.lst (xs.map It.d)), .fz (s w)], by simp, by simp [c_issue_of w (hv w hw).1 (hv w hw).2]⟩
      have h3 : (words xs).map (fun w => s (iss w)) = ((words xs).map iss).map s := by rw [List.map_map]; rfl
      rw [h3] at h2
      have h4 := c_asc_ls ((words xs).map iss)
      unfold ls at h4
      simp [C_is_view_of, B_is_view_of, startE, Vw.d, vwOK, h1, q, h2, h4, vwB, -List.map_map]
    · simp only [Bool.not_eq_true] at q
      simp [C_is_view_of, B_is_view_of, startE, Vw.d, vwOK, h1, q]
/-! ### holding -/
def hasB (view other : List Wd) : Bool := other.all fun w => decide (w ∈ view)
theorem c_holds (view other : List Wd) : C_holds [ls view, ls other] = ok (.bl (hasB view other)) := by
  have h1 := eComp_all (own := [2]) (it := iA (bV 1)) (tg := gN 2) (elt := e2 gIn (bV 2) (bV 0)) (e := [.fz (ls view), .fz (ls other), .un]) s (fun w => .bl (decide (w ∈ view))) other (by simp [ls]) fun w hw => ⟨[.fz (ls view), .fz (ls other), .fz (s w)], by simp, by simp⟩
  simp [C_holds, B_holds, startE, h1, hasB]
def lls (vs : List (List Wd)) : D := .lst (vs.map ls)
theorem c_holds_some (view : List Wd) (vs : List (List Wd)) : C_holds_some [ls view, lls vs] = ok (.bl (vs.any (hasB view))) := by
  have h1 := eComp_all (own := [2]) (it := iA (bV 1)) (tg := gN 2) (elt := eCall C_holds (aC (eV 0) (aC (eV 2) (aN)))) (e := [.fz (ls view), .fz (lls vs), .un]) ls (fun w => .bl (hasB view w)) vs (by simp [lls]) fun w hw => ⟨[.fz (ls view), .fz (lls vs), .fz (ls w)], by simp, by simp [c_holds]⟩
  simp [C_holds_some, B_holds_some, startE, h1]
@[simp] theorem gLen_lst (xs : List D) : gLen (.lst xs) = ok (.int xs.length) := rfl
@[simp] theorem gLen_tup (xs : List D) : gLen (.tup xs) = ok (.int xs.length) := rfl
def neB (xs : List It) : Bool := decide (0 < xs.length)
def barOK (issues : List Wd) (v : Vw) : Bool := vwOK issues v && (match v with | .l xs => neB xs | _ => false)
theorem c_is_bar (issues : List Wd) (v : Vw) (h : v.ok) : C_is_bar [ls issues, v.d] = ok (.bl (barOK issues v)) := by
  cases v with
  | l xs =>
    have := c_is_view_of issues (.l xs) h
    by_cases q : vwOK issues (.l xs) = true
    · simp only [Vw.d] at this
      simp [C_is_bar, B_is_bar, startE, Vw.d, this, q, barOK, neB]
    · simp only [Bool.not_eq_true] at q
      simp only [Vw.d] at this
      simp [C_is_bar, B_is_bar, startE, Vw.d, this, q, barOK]
  | t xs =>
    have := c_is_view_of issues (.t xs) h
    simp only [Vw.d] at this
    simp [C_is_bar, B_is_bar, startE, Vw.d, this, barOK, vwOK]
  | a x =>
    have := c_is_view_of issues (.a x) h
    simp only [Vw.d] at this
    simp [C_is_bar, B_is_bar, startE, Vw.d, this, barOK, vwOK]

/-! ### loops that may end by an answer -/
theorem forS_find {α : Type} {tg : FG} {body : FS} (enc : α → D) (bad : α → Bool) (d0 : D) (P : En → Prop) : ∀ (xs : List α),
    (∀ a ∈ xs, ∀ e, P e → ∃ e1, tg (enc a) e = some e1 ∧ (if bad a = true then body e1 = some (.rt d0) else ∃ e2, (body e1 = some (.nx e2) ∨ body e1 = some (.ct e2)) ∧ P e2)) →
    ∀ e, P e → (if xs.any bad = true then forS tg body (xs.map enc) e = some (.rt d0) else ∃ e', forS tg body (xs.map enc) e = some (.nx e') ∧ P e')
  | [], _, e, he => by
    simp only [List.any_nil, Bool.false_eq_true, if_false]
    exact ⟨e, rfl, he⟩
  | a :: xs, h, e, he => by
    obtain ⟨e1, h1, h2⟩ := h a (by simp) e he
    simp only [List.any_cons, List.map_cons, forS, h1]
    by_cases q : bad a = true
    · rw [if_pos q] at h2
      simp [q, h2]
    · rw [if_neg q] at h2
      obtain ⟨e2, h3, h4⟩ := h2
      have ih := forS_find enc bad d0 P xs (fun b hb => h b (by simp [hb])) e2 h4
      simp only [Bool.not_eq_true] at q
      rcases h3 with h3 | h3 <;> simpa [q, h3] using ih
/-- .. that never do -/
theorem forS_all {α : Type} {tg : FG} {body : FS} (enc : α → D) (P : List α → En → Prop) : ∀ (xs : List α),
    (∀ a r e, a ∈ xs → P (a :: r) e → ∃ e1, tg (enc a) e = some e1 ∧ ∃ e2, (body e1 = some (.nx e2) ∨ body e1 = some (.ct e2)) ∧ P r e2) →
    ∀ e, P xs e → ∃ e', forS tg body (xs.map enc) e = some (.nx e') ∧ P [] e'
  | [], _, e, he => ⟨e, rfl, he⟩
  | a :: xs, h, e, he => by
    obtain ⟨e1, h1, e2, h2, h3⟩ := h a xs e (by simp) he
    obtain ⟨e', h4, h5⟩ := forS_all enc P xs (fun b r e hb => h b r e (by simp [hb])) e2 h3
    refine ⟨e', ?_, h5⟩
    simp only [List.map_cons, forS, h1]
    rcases h2 with h2 | h2 <;> simpa [h2] using h4
@[simp] theorem sFor_e (it : FI) (tg : FG) (body : FS) (e : En) : sFor it tg body e = sE (it e) e fun ds => forS tg body ds e := rfl
@[simp] theorem iEn_e (f : En → R D) (e : En) : iEn f e = bR (f e) fun d => match d with
  | .lst xs => DL.ok (enumD 0 xs)
  | _ => none := rfl
theorem enum_map {α : Type} (enc : α → D) : ∀ (xs : List α) (k : Nat), enumD k (xs.map enc) = (xs.zipIdx k).map fun z => .tup [.int (z.2 : Nat), enc z.1]
  | [], _ => rfl
  | x :: xs, k => by
    simp only [List.map_cons, enumD, List.zipIdx_cons, enum_map enc xs (k + 1)]
@[simp] theorem gAdd_i (a b : Int) : gAdd (.int a) (.int b) = DL.ok (.int (a + b)) := rfl
@[simp] theorem gSub_i (a b : Int) : gSub (.int a) (.int b) = DL.ok (.int (a - b)) := rfl
theorem gAdd_lst (a b : List D) (h : a.length + b.length ≤ 16777216) : gAdd (.lst a) (.lst b) = DL.ok (.lst (a ++ b)) := by
  show (if _ then _ else _) = _
  rw [if_pos h]
/-- the others but the one at k -/
def others {α : Type} (xs : List α) (k : Nat) : List α := xs.take k ++ xs.drop (k + 1)
theorem others_len {α : Type} (xs : List α) (k : Nat) : (others xs k).length ≤ xs.length := by
  unfold others; simp; omega
theorem map_others {α β : Type} (f : α → β) (xs : List α) (k : Nat) : (others xs k).map f = (xs.map f).take k ++ (xs.map f).drop (k + 1) := by
  unfold others; simp
@[simp] theorem cutL_toN {α : Type} (xs : List α) (k : Nat) : cutL xs none (some ((k : Nat) : Int)) = xs.take k := cutL_to xs k
@[simp] theorem cutL_fromN {α : Type} (xs : List α) (k : Nat) : cutL xs (some ((k : Nat) : Int)) none = xs.drop k := cutL_from xs k
@[simp] theorem cutL_fromS {α : Type} (xs : List α) (k : Nat) : cutL xs (some ((k : Nat) + 1 : Int)) none = xs.drop (k + 1) := cutL_from xs (k + 1)
def nhaB (vs : List (List Wd)) : Bool := !(vs.zipIdx.any fun z => (others vs z.2).any (hasB z.1))
theorem c_none_holds (vs : List (List Wd)) (h : vs.length ≤ 1000) : C_none_holds_another [lls vs] = DL.ok (.bl (nhaB vs)) := by
  have key := forS_find (tg := gT 2 (gsC (gN 1) (gsC (gN 2) (gsN)))) (body := sIf (tU (eCall C_holds_some (aC (eV 2) (aC (e2 gAdd (eSl gSl (bV 0) (oN) (oS (eV 1))) (eSl gSl (bV 0) (oS (e2 gAdd (bV 1) (eC (.int 1)))) (oN))) (aN))))) (sRet (eC (.bl false))) (sNext))
    (fun z : List Wd × Nat => .tup [.int (z.2 : Nat), ls z.1]) (fun z => (others vs z.2).any (hasB z.1)) (.bl false) (fun e => ∃ a b, e = [.fz (lls vs), a, b]) vs.zipIdx (fun z hz e he => by
      obtain ⟨a, b, rfl⟩ := he
      refine ⟨[.fz (lls vs), .fz (.int (z.2 : Nat)), .fz (ls z.1)], by simp, ?_⟩
      have hl := others_len vs z.2
      have e1 : gAdd (.lst ((vs.map ls).take z.2)) (.lst ((vs.map ls).drop (z.2 + 1))) = DL.ok (lls (others vs z.2)) := by
        rw [gAdd_lst _ _ (by simp; omega)]
        unfold lls
        rw [map_others]
      have e2 := c_holds_some z.1 (others vs z.2)
      by_cases q : (others vs z.2).any (hasB z.1) = true
      · rw [if_pos q]
        rw [q] at e2
        simp [lls] at *
        simp [e1, e2]
      · rw [if_neg q]
        simp only [Bool.not_eq_true] at q
        rw [q] at e2
        refine ⟨[.fz (lls vs), .fz (.int (z.2 : Nat)), .fz (ls z.1)], .inl ?_, _, _, rfl⟩
        simp [lls] at *
        simp [e1, e2]) [.fz (lls vs), .un, .un] ⟨_, _, rfl⟩
  have e0 : iEn (eV 0) [.fz (lls vs), .un, .un] = DL.ok (vs.zipIdx.map fun z => .tup [.int (z.2 : Nat), ls z.1]) := by simp [lls, enum_map]
  unfold nhaB
  by_cases q : (vs.zipIdx.any fun z => (others vs z.2).any (hasB z.1)) = true
  · rw [if_pos q] at key
    simp only [C_none_holds_another, B_none_holds_another, startE, List.map_cons, List.map_nil, List.length_singleton, List.replicate, List.singleton_append, sSeq_e, sFor_e, e0, sE_ok, key, q]
    rfl
  · rw [if_neg q] at key
    obtain ⟨e', h1, h2⟩ := key
    simp only [Bool.not_eq_true] at q
    simp only [C_none_holds_another, B_none_holds_another, startE, List.map_cons, List.map_nil, List.length_singleton, List.replicate, List.singleton_append, sSeq_e, sFor_e, e0, sE_ok, h1, q]
    rfl
end DL

namespace DL
open PySem PySem.Spec L2
open PyProof.Rows hiding St

def itemsV : Vw → List It
  | .l xs => xs
  | _ => []
def wordsV (v : Vw) : List Wd := words (itemsV v)
theorem barOK_l {issues : List Wd} {v : Vw} (h : barOK issues v = true) : v = .l (itemsV v) ∧ (itemsV v).all (vOK issues) = true ∧ vwB issues (wordsV v) = true ∧ wordsV v ≠ [] := by
  cases v with
  | l xs =>
    simp only [barOK, vwOK, neB, Bool.and_eq_true, decide_eq_true_eq] at h
    refine ⟨rfl, h.1.1, h.1.2, ?_⟩
    intro z
    have : xs = [] := by simpa [wordsV, words, itemsV] using z
    rw [this] at h
    simp at h
  | _ => simp [barOK, vwOK] at h
theorem barOK_d {issues : List Wd} {v : Vw} (h : barOK issues v = true) : v.d = ls (wordsV v) := by
  obtain ⟨e, h1, _⟩ := barOK_l h
  rw [e]
  show D.lst _ = D.lst _
  rw [words_eq h1]
  rfl
theorem barOK_vd {issues : List Wd} {v : Vw} (h : barOK issues v = true) (ho : v.ok) : ∀ w ∈ wordsV v, Vd w := by
  obtain ⟨e, h1, _⟩ := barOK_l h
  rw [e] at ho
  exact words_vd h1 ho
/-- what is_barring says -/
def isB (issues : List Wd) : Va → Bool
  | .l vs => vs.all (barOK issues) && (ascB ltV (vs.map wordsV) && nhaB (vs.map wordsV))
  | _ => false
theorem c_are_bars (issues : List Wd) (v : Va) (h : v.ok) (hl : ∀ vs, v = .l vs → vs.length ≤ 1000) : C_are_bars [ls issues, v.d] = ok (.bl (isB issues v)) := by
  cases v with
  | t xs => simp [C_are_bars, B_are_bars, startE, Va.d, isB]
  | a x => cases x <;> simp [C_are_bars, B_are_bars, startE, Va.d, It.d, isB]
  | i n => simp [C_are_bars, B_are_bars, startE, Va.d, isB]
  | e => simp [C_are_bars, B_are_bars, startE, Va.d, isB]
  | l vs =>
    have hl := hl vs rfl
    have h1 := eComp_all (own := [2]) (it := iA (bV 1)) (tg := gN 2) (elt := eCall C_is_bar (aC (eV 0) (aC (eV 2) (aN)))) (e := [.fz (ls issues), .fz (.lst (vs.map Vw.d)), .un]) Vw.d (fun x => .bl (barOK issues x)) vs (by simp) fun x hx =>
      ⟨[.fz (ls issues), .fz (.lst (vs.map Vw.d)), .fz x.d], by simp, by simp [c_is_bar issues x (h x hx)]⟩
    by_cases q : vs.all (barOK issues) = true
    · have q' := q
      rw [List.all_eq_true] at q'
      have ev : vs.map Vw.d = (vs.map wordsV).map ls := by
        rw [List.map_map]
        exact List.map_congr_left fun x hx => barOK_d (q' x hx)
      have h2 := eComp_all (own := [2]) (it := iA (bV 1)) (tg := gN 2) (elt := eCall C_order_of (aC (eV 2) (aN))) (e := [.fz (ls issues), .fz (.lst (vs.map Vw.d)), .un]) ls (fun v => .lst (v.map plc)) (vs.map wordsV) (by simp [ev, -List.map_map]) fun v hv => by
        obtain ⟨x, hx, rfl⟩ := List.mem_map.mp hv
        exact ⟨[.fz (ls issues), .fz (.lst (vs.map Vw.d)), .fz (ls (wordsV x))], by simp, by simp [c_order_of _ (barOK_vd (q' x hx) (h x hx))]⟩
      have h3 := c_asc_ord (vs.map wordsV)
      have h4 := c_none_holds (vs.map wordsV) (by simpa using hl)
      unfold lls at h4
      by_cases q2 : ascB ltV (vs.map wordsV) = true
      · simp [C_are_bars, B_are_bars, startE, Va.d, isB, h1, q, h2, h3, q2, -List.map_map]
        rw [ev, h4]; simp
      · simp only [Bool.not_eq_true] at q2
        simp [C_are_bars, B_are_bars, startE, Va.d, isB, h1, q, h2, h3, q2, -List.map_map]
    · simp only [Bool.not_eq_true] at q
      simp [C_are_bars, B_are_bars, startE, Va.d, isB, h1, q]
theorem c_is_barring (issues : List Wd) (v : Va) (h : v.ok) (hl : ∀ vs, v = .l vs → vs.length ≤ 1000) : C_is_barring [ls issues, v.d] = ok (.bl (isB issues v)) := by
  simp [C_is_barring, B_is_barring, startE, c_are_bars issues v h hl]

/-! ### the law's own words -/
theorem lit0 : (D.str "") = s [] := by rfl
theorem c_issue (w : Wd) (h : w ≠ []) (hl : w.length ≤ 1000) : C__law_issue [s w] = ok (s (iss w)) := by
  cases w with
  | nil => exact absurd rfl h
  | cons c w =>
    have h1 : w.length < 16777216 := by simp at hl; omega
    have h2 : (c :: w).length ≤ 16777216 := by simp; omega
    simp only [C__law_issue, B__law_issue, startE, List.map_cons, List.map_nil, List.length_singleton, List.replicate, List.singleton_append]
    by_cases q : c = 33
    · simp [h1, lit1, q, iss]
      rw [gSl_s _ _ _ (by simp; omega)]; simp
    · simp [h1, lit1, q, iss]
def plcI (w : Wd) : D := .tup [s (iss w), .int (if isY w then 0 else 1)]
@[simp] theorem gInt_bl (b : Bool) : gInt (.bl b) = ok (.int (if b then 1 else 0)) := rfl
@[simp] theorem gInt_i (b : Int) : gInt (.int b) = ok (.int b) := rfl
theorem c_plc_elt (w : Wd) (h : Vd w) (e : En) (he : e[1]? = some (.fz (s w))) : eTup (aC (eCall C__law_issue (aC (eV 1) (aN))) (aC (e1 gInt (e2 gEq (e2 gIx (bV 1) (eC (.int 0))) (eC (.str "!")))) (aN))) e = ok (plcI w) := by
  cases w with
  | nil => exact absurd rfl h.1
  | cons c w =>
    have hl : w.length < 16777216 := by have := h.2; simp at this; omega
    simp [he, c_issue _ h.1 h.2, hl, lit1, plcI, isY]
theorem c_order (ws : List Wd) (h : ∀ w ∈ ws, Vd w) : C__law_order [ls ws] = ok (.lst (ws.map plcI)) := by
  have := eComp_all (own := [1]) (it := iA (bV 0)) (tg := gN 1) (elt := eTup (aC (eCall C__law_issue (aC (eV 1) (aN))) (aC (e1 gInt (e2 gEq (e2 gIx (bV 1) (eC (.int 0))) (eC (.str "!")))) (aN)))) (e := [.fz (ls ws), .un]) s plcI ws (by simp [ls]) fun w hw => ⟨[.fz (ls ws), .fz (s w)], by simp, c_plc_elt w (h w hw) _ rfl⟩
  simp [C__law_order, B__law_order, startE, this]
theorem deq_plcI (x y : Wd) : deq (plcI x) (plcI y) = eqP x y := by
  unfold plcI eqP
  rw [deq_pair, deq_s, deq_i]
  cases isY x <;> cases isY y <;> simp
theorem dal_i (a b : Int) : dal (.int a) (.int b) = true := rfl
theorem dlt_i (a b : Int) : dlt (.int a) (.int b) = decide (a < b) := by
  unfold dlt; simp only [P, PySem.W.dataLt_int]
theorem dlt_plcI (x y : Wd) : dlt (plcI x) (plcI y) = ltP x y := by
  unfold plcI
  rw [dlt_pair (dal_s _ _) (dal_i _ _), deq_s, deq_i, dlt_i, dlt_s]
  unfold ltP
  by_cases h : iss x = iss y
  · cases isY x <;> cases isY y <;> simp [h]
  · simp [h]
theorem dal_plcI (x y : Wd) : dal (plcI x) (plcI y) = true := dal_pair (dal_s _ _) rfl
theorem dlt_ordI (a b : List Wd) : dlt (.lst (a.map plcI)) (.lst (b.map plcI)) = ltV a b := by
  rw [dlt_lst plcI dal_plcI]
  unfold ltV
  simp only [deq_plcI, dlt_plcI]
theorem pl_plcI (n : Nat) (x : Wd) : pl (n + 1) (plcI x) = true := by cases n <;> simp [plcI, pl]
theorem gLe_ord (a b : List Wd) : gLe (.lst (a.map plcI)) (.lst (b.map plcI)) = ok (.bl (!ltV b a)) := by
  unfold gLe gOrd
  rw [if_pos ⟨pl_lst plcI 7 (pl_plcI 6) a, pl_lst plcI 7 (pl_plcI 6) b, dal_lst plcI dal_plcI a b, rfl⟩]
  show ok (D.bl (!dlt _ _)) = _
  rw [dlt_ordI]
theorem gEq_lst0 (xs : List D) (h : xs.all (pl 7) = true) : gEq (.lst xs) (.lst []) = ok (.bl xs.isEmpty) := by
  unfold gEq
  rw [if_neg (by simp), if_pos ⟨by simpa [pl] using h, by simp [pl]⟩]
  cases xs with
  | nil => rfl
  | cons x xs => simp [deq, P, PL, PyData.eqv, PyData.eqvAll]
theorem gNe_lst0 (xs : List D) (h : xs.all (pl 7) = true) : gNe (.lst xs) (.lst []) = ok (.bl (!xs.isEmpty)) := by
  unfold gNe
  rw [if_neg (by simp), if_pos ⟨by simpa [pl] using h, by simp [pl]⟩]
  cases xs with
  | nil => rfl
  | cons x xs => simp [deq, P, PL, PyData.eqv, PyData.eqvAll]
theorem filter_nil {α : Type} (p : α → Bool) (xs : List α) : (xs.filter fun x => !p x).isEmpty = xs.all p := by
  induction xs with
  | nil => rfl
  | cons x xs ih => cases q : p x <;> simp [q, ih]
theorem c_has (view other : List Wd) : C__law_has [ls view, ls other] = ok (.bl (hasB view other)) := by
  have h1 := eComp_map (own := [2]) (it := iA (bV 1)) (tg := gN 2) (cond := tV (e2 gNotIn (bV 2) (bV 0))) (elt := eV 2) (e := [.fz (ls view), .fz (ls other), .un]) s (fun w => !decide (w ∈ view)) s other (by simp [ls]) fun w hw => ⟨[.fz (ls view), .fz (ls other), .fz (s w)], by simp, by simp, fun _ => by simp⟩
  have h2 := gEq_lst0 ((other.filter fun w => !decide (w ∈ view)).map s) (by rw [List.all_map]; simp)
  rw [List.isEmpty_map, filter_nil] at h2
  simp [C__law_has, B__law_has, startE, h1, h2, hasB]
end DL

namespace DL
open PySem PySem.Spec L2
open PyProof.Rows hiding St

/-! ### indices -/
theorem findD_map {α : Type} [BEq α] [LawfulBEq α] (enc : α → D) (hi : ∀ x y, deq (enc x) (enc y) = (x == y)) (y : α) : ∀ (xs : List α) (k : Nat), y ∈ xs → findD (enc y) (xs.map enc) k = some (k + xs.idxOf y)
  | [], _, h => by simp at h
  | x :: xs, k, h => by
    simp only [List.map_cons, findD, hi]
    by_cases q : x = y
    · simp [q]
    · have : y ∈ xs := by simpa [Ne.symm q] using h
      have h2 : (x == y) = false := by simpa using q
      simp only [h2, Bool.false_eq_true, if_false, findD_map enc hi y xs (k + 1) this]
      rw [List.idxOf_cons]
      simp only [h2, cond_false]
      congr 1; omega
theorem deq_sb (a b : Wd) : deq (s a) (s b) = (a == b) := by
  rw [deq_s, Bool.eq_iff_iff]; simp
theorem gIndex_ls (issues : List Wd) (y : Wd) (h : y ∈ issues) : gIndex (ls issues) (s y) = ok (.int (issues.idxOf y : Nat)) := by
  show (if _ then _ else _) = _
  rw [if_pos ⟨pl_s 8 y, by rw [List.all_map]; simp⟩, findD_map s deq_sb y issues 0 h]
  simp
@[simp] theorem eIndex_e (fo fa : En → R D) (e : En) : eIndex fo fa e = bR (fo e) fun x => if isLst x = true then bR (fa e) fun y => gIndex x y else none := rfl
@[simp] theorem isLst_ls (a : List Wd) : isLst (ls a) = true := rfl
theorem all_range {α : Type} (lt : α → α → Bool) (d : α) : ∀ xs : List α, ((List.range (xs.length - 1)).all fun k => lt (xs.getD k d) (xs.getD (k + 1) d)) = ascB lt xs
  | [] => rfl
  | [x] => rfl
  | x :: y :: r => by
    have ih := all_range lt d (y :: r)
    simp only [List.length_cons, Nat.add_sub_cancel] at ih ⊢
    rw [List.range_succ_eq_map, List.all_cons, List.all_map]
    simp only [ascB]
    rw [← ih]
    rfl
/-- strictly ascending -/
def Asc (l : List Wd) : Prop := l.Pairwise (· < ·)
theorem lt_irr (a : Wd) : ¬ a < a := List.lt_irrefl a
theorem idx_lt {l : List Wd} (h : Asc l) {a b : Wd} (ha : a ∈ l) (hb : b ∈ l) : l.idxOf a < l.idxOf b ↔ a < b := by
  induction l with
  | nil => simp at ha
  | cons x l ih =>
    have h1 := List.pairwise_cons.mp h
    rw [List.idxOf_cons, List.idxOf_cons]
    by_cases qa : x = a
    · subst qa
      by_cases qb : x = b
      · subst qb; simp [lt_irr]
      · have : b ∈ l := by simpa [Ne.symm qb] using hb
        have q2 : (x == b) = false := by simpa using qb
        simp [q2, h1.1 b this]
    · have qa2 : (x == a) = false := by simpa using qa
      have ma : a ∈ l := by simpa [Ne.symm qa] using ha
      by_cases qb : x = b
      · subst qb
        simp [qa2]
        intro z
        exact List.lt_asymm z (h1.1 a ma)
      · have qb2 : (x == b) = false := by simpa using qb
        have mb : b ∈ l := by simpa [Ne.symm qb] using hb
        simp [qa2, qb2, ih h1.2 ma mb]
theorem asc_map {α β : Type} (lt : α → α → Bool) (lt' : β → β → Bool) (f : α → β) : ∀ (xs : List α), (∀ x ∈ xs, ∀ y ∈ xs, lt' (f x) (f y) = lt x y) → ascB lt' (xs.map f) = ascB lt xs
  | [], _ => rfl
  | [x], _ => rfl
  | x :: y :: r, h => by
    have ih := asc_map lt lt' f (y :: r) fun a ha b hb => h a (by simp [ha]) b (by simp [hb])
    simp only [List.map_cons, ascB] at ih ⊢
    rw [ih, h x (by simp) y (by simp)]

/-! ### the law's own test of a view -/
@[simp] theorem pl_it (n : Nat) (x : It) : pl n x.d = true := by cases x <;> cases n <;> simp [It.d, pl]
theorem pl_vw (n : Nat) (v : Vw) : pl (n + 1) v.d = true := by
  cases v with
  | l xs => exact pl_lst It.d n (pl_it n) xs
  | t xs => exact pl_tup It.d n (pl_it n) xs
  | a x => exact pl_it _ x
theorem gEq_nonstr (x : D) : True := trivial
theorem iR2_ok {f g : En → R D} {e : En} {a b : Int} (hf : f e = ok (.int a)) (hg : g e = ok (.int b)) (h : a.natAbs < 1000000 ∧ b.natAbs < 1000000) : iR2 f g e = ok (rng a b) := by
  unfold iR2
  rw [hf, bR_ok, hg, bR_ok]
  exact if_pos h
theorem iR1_i {f : En → R D} {e : En} {n : Int} (hf : f e = ok (.int n)) (h : n.natAbs < 1000000) : iR1 f e = ok ((List.range n.toNat).map fun k : Nat => .int k) := by
  unfold iR1
  rw [hf, bR_ok]
  exact if_pos h
theorem iR1_n {f : En → R D} {e : En} {n : Nat} (hf : f e = ok (.int n)) (h : n ≤ 1000) : iR1 f e = ok ((List.range n).map fun k : Nat => .int k) := by
  rw [iR1_i hf (by omega), Int.toNat_natCast]
theorem gIx_lst (xs : List D) (k : Nat) (h : k < xs.length) : gIx (.lst xs) (.int k) = ok xs[k] := by
  show (atI xs k).elim none ok = _
  have : atI xs (k : Int) = some xs[k] := by
    unfold atI ixN
    simp [h]
  rw [this]; rfl
theorem gIx_map {α : Type} (enc : α → D) (xs : List α) (d : α) (k : Nat) (h : k < xs.length) : gIx (.lst (xs.map enc)) (.int k) = ok (enc (xs.getD k d)) := by
  rw [gIx_lst _ k (by simpa using h)]
  simp [List.getD_eq_getElem?_getD, h]
theorem c_is_view (issues : List Wd) (hI : Asc issues) (v : Vw) (h : v.ok) (hl : (itemsV v).length ≤ 1000) : C__law_is_view [ls issues, v.d] = ok (.bl (vwOK issues v)) := by
  cases v with
  | t xs => simp [C__law_is_view, B__law_is_view, startE, Vw.d, vwOK]
  | a x => cases x <;> simp [C__law_is_view, B__law_is_view, startE, Vw.d, It.d, vwOK]
  | l xs =>
    have h1 := eComp_map (own := [3]) (it := iA (bV 1)) (tg := gN 3) (cond := (fOr (fNot (tU (e1 (gIs "str") (bV 3)))) (fOr (tV (e2 gEq (bV 3) (eC (.str "")))) (tV (e2 gNotIn (eCall C__law_issue (aC (eV 3) (aN))) (bV 0)))))) (elt := eV 3) (e := [.fz (ls issues), .fz (.lst (xs.map It.d)), .un, .un, .un]) It.d (fun x => !vOK issues x) It.d xs (by simp) fun x hx =>
      ⟨[.fz (ls issues), .fz (.lst (xs.map It.d)), .un, .fz x.d, .un], by simp, by
        have := h x hx
        cases x with
        | no => simp [It.d, vOK]
        | w a =>
          by_cases q : a = []
          · simp [It.d, vOK, q, lit0]
          · have q2 : a.isEmpty = false := by cases a <;> simp at q ⊢
            simp [It.d, vOK, q, q2, lit0, c_issue a q this], fun _ => by simp⟩
    have h2 := gNe_lst0 ((xs.filter fun x => !vOK issues x).map It.d) (by rw [List.all_map]; simp)
    rw [List.isEmpty_map, filter_nil] at h2
    by_cases q : xs.all (vOK issues) = true
    · have hv := words_vd q h
      have hm : ∀ w ∈ words xs, iss w ∈ issues := fun w hw => by
        obtain ⟨x, hx, rfl⟩ := List.mem_map.mp hw
        rw [List.all_eq_true] at q
        exact (vOK_w (q x hx)).2.2
      have hlw : (words xs).length ≤ 1000 := by unfold words; rw [List.length_map]; exact hl
      have h3 := eComp_all (own := [3]) (it := iA (bV 1)) (tg := gN 3) (elt := eIndex (bV 0) (eCall C__law_issue (aC (eV 3) (aN)))) (e := [.fz (ls issues), .fz (.lst (xs.map It.d)), .un, .un, .un]) s (fun w => .int (issues.idxOf (iss w) : Nat)) (words xs) (by simp [words_eq q]) fun w hw =>
        ⟨[.fz (ls issues), .fz (.lst (xs.map It.d)), .un, .fz (s w), .un], by simp, by simp [c_issue w (hv w hw).1 (hv w hw).2, gIndex_ls issues _ (hm w hw)]⟩
      have hlen : (0 : Int) + 1 ≤ 1000001 := by omega
      have h4 := eComp_map (own := [4]) (it := iR2 (eC (.int 1)) (e1 gLen (bV 2))) (tg := gN 4) (cond := (tV (e2 gGe (e2 gIx (bV 2) (e2 gSub (bV 4) (eC (.int 1)))) (e2 gIx (bV 2) (bV 4))))) (elt := eV 4)
        (e := [.fz (ls issues), .fz (.lst (xs.map It.d)), .fz (.lst ((words xs).map fun w => .int (issues.idxOf (iss w) : Nat))), .un, .un]) (fun k : Nat => .int (1 + k)) (fun k => !decide (issues.idxOf (iss ((words xs).getD k [])) < issues.idxOf (iss ((words xs).getD (k + 1) [])))) (fun k : Nat => .int (1 + k)) (List.range ((words xs).length - 1)) (by
          have e1 : (((words xs).length : Int) - 1).toNat = (words xs).length - 1 := by omega
          rw [iR2_ok (a := 1) (b := ((words xs).length : Nat)) rfl (by simp) (by omega)]
          unfold rng
          rw [e1]) fun k hk => by
        have hk' : k < (words xs).length - 1 := List.mem_range.mp hk
        have e0 : (1 + (k : Int) - 1) = ((k : Nat) : Int) := by omega
        have e1 : (1 + (k : Int)) = ((k + 1 : Nat) : Int) := by omega
        refine ⟨[.fz (ls issues), .fz (.lst (xs.map It.d)), .fz (.lst ((words xs).map fun w => .int (issues.idxOf (iss w) : Nat))), .un, .fz (.int (1 + k))], by simp, ?_, fun _ => by simp⟩
        have g1 := gIx_map (fun w : Wd => D.int (issues.idxOf (iss w) : Nat)) (words xs) [] k (by omega)
        have g2 := gIx_map (fun w : Wd => D.int (issues.idxOf (iss w) : Nat)) (words xs) [] (k + 1) (by omega)
        simp only [tV_e, e2_e, bV_e, List.getElem?_cons_succ, List.getElem?_cons_zero, bR_ok, eC_e, gSub_i, e0, g1]
        rw [e1]
        simp only [g2, bR_ok, gGe_i, asB_bl]
        congr 2
        rw [Bool.eq_iff_iff]; simp
      have h5 := gEq_lst0 (((List.range ((words xs).length - 1)).filter (fun k => !decide (issues.idxOf (iss ((words xs).getD k [])) < issues.idxOf (iss ((words xs).getD (k + 1) []))))).map fun k : Nat => .int (1 + k)) (by rw [List.all_map]; simp [pl])
      rw [List.isEmpty_map, filter_nil] at h5
      have h6 := all_range (fun a b : Wd => decide (issues.idxOf (iss a) < issues.idxOf (iss b))) [] (words xs)
      have h7 : ascB (fun a b : Wd => decide (issues.idxOf (iss a) < issues.idxOf (iss b))) (words xs) = vwB issues (words xs) := by
        unfold vwB
        refine (asc_map _ ltW iss (words xs) fun x hx y hy => ?_).symm
        unfold ltW
        exact decide_eq_decide.mpr (idx_lt hI (hm x hx) (hm y hy)).symm
      rw [h6, h7] at h5
      simp [C__law_is_view, B__law_is_view, startE, Vw.d, vwOK, h1, h2, q, h3, h4, h5, -List.map_map  , -List.getD_eq_getElem?_getD]
    · simp only [Bool.not_eq_true] at q
      simp [C__law_is_view, B__law_is_view, startE, Vw.d, vwOK, h1, h2, q]
end DL

namespace DL
open PySem PySem.Spec L2
open PyProof.Rows hiding St

/-! ### the law's own answer -/
def bad1 (vs : List (List Wd)) (k : Nat) : Bool := decide (0 < k) && !ltV (vs.getD (k - 1) []) (vs.getD k [])
def bad2 (vs : List (List Wd)) (k : Nat) : Bool := (List.range vs.length).any fun j => decide (j ≠ k) && hasB (vs.getD k []) (vs.getD j [])
def badD (vs : List (List Wd)) (k : Nat) : Bool := bad1 vs k || bad2 vs k
def dueB (vs : List (List Wd)) : Bool := !((List.range vs.length).any (badD vs))
def duV (issues : List Wd) : Va → Bool
  | .l vs => vs.all (barOK issues) && dueB (vs.map wordsV)
  | _ => false
theorem filter_any {α : Type} (p : α → Bool) (xs : List α) : (!(xs.filter p).isEmpty) = xs.any p := by
  induction xs with
  | nil => rfl
  | cons x xs ih => cases q : p x <;> simp [q, ih]
theorem getD_mem {α : Type} (xs : List α) (k : Nat) (d : α) (h : k < xs.length) : xs.getD k d ∈ xs := by
  rw [List.getD_eq_getElem?_getD, List.getElem?_eq_getElem h]
  exact List.getElem_mem h
theorem c_due (issues : List Wd) (hI : Asc issues) (v : Va) (h : v.ok) (hl : ∀ vs, v = .l vs → vs.length ≤ 1000 ∧ ∀ x ∈ vs, (itemsV x).length ≤ 1000) : C__law_due [ls issues, v.d] = ok (.bl (duV issues v)) := by
  cases v with
  | t xs => simp [C__law_due, B__law_due, startE, Va.d, duV]
  | a x => cases x <;> simp [C__law_due, B__law_due, startE, Va.d, It.d, duV]
  | i n => simp [C__law_due, B__law_due, startE, Va.d, duV]
  | e => simp [C__law_due, B__law_due, startE, Va.d, duV]
  | l vs =>
    obtain ⟨hl, hl2⟩ := hl vs rfl
    have h1 := eComp_map (own := [3]) (it := iA (bV 1)) (tg := gN 3) (cond := (fOr (fNot (tU (eCall C__law_is_view (aC (eV 0) (aC (eV 3) (aN)))))) (tV (e2 gEq (bV 3) (eLst (aN)))))) (elt := eV 3) (e := [.fz (ls issues), .fz (.lst (vs.map Vw.d)), .un, .un, .un]) Vw.d (fun x => !barOK issues x) Vw.d vs (by simp) fun x hx =>
      ⟨[.fz (ls issues), .fz (.lst (vs.map Vw.d)), .un, .fz x.d, .un], by simp, by
        have hv := c_is_view issues hI x (h x hx) (hl2 x hx)
        by_cases q : vwOK issues x = true
        · cases x with
          | l xs =>
            simp only [Vw.d] at hv
            simp [Vw.d, hv, q, barOK, gEq_lst0 (xs.map It.d) (by rw [List.all_map]; simp), neB]
            cases xs <;> simp
          | _ => simp [vwOK] at q
        · simp only [Bool.not_eq_true] at q
          simp [hv, q, barOK], fun _ => by simp⟩
    have h2 := gNe_lst0 ((vs.filter fun x => !barOK issues x).map Vw.d) (by rw [List.all_map]; simp only [Function.comp_def, pl_vw 6]; simp)
    rw [List.isEmpty_map, filter_nil] at h2
    by_cases q : vs.all (barOK issues) = true
    · have q' := q
      rw [List.all_eq_true] at q'
      have ev : vs.map Vw.d = (vs.map wordsV).map ls := by
        rw [List.map_map]
        exact List.map_congr_left fun x hx => barOK_d (q' x hx)
      have hvd : ∀ u ∈ vs.map wordsV, ∀ w ∈ u, Vd w := fun u hu => by
        obtain ⟨x, hx, rfl⟩ := List.mem_map.mp hu
        exact barOK_vd (q' x hx) (h x hx)
      generalize hus : vs.map wordsV = us at *
      have hlu : us.length ≤ 1000 := by rw [← hus, List.length_map]; exact hl
      have key := forS_find (tg := gN 2) (body := (sSeq (sIf (fAnd (tV (e2 gGt (bV 2) (eC (.int 0)))) (tV (e2 gLe (eCall C__law_order (aC (e2 gIx (bV 1) (bV 2)) (aN))) (eCall C__law_order (aC (e2 gIx (bV 1) (e2 gSub (bV 2) (eC (.int 1)))) (aN)))))) (sRet (eC (.bl false))) (sNext)) (sIf (tV (e2 gNe (eComp [4] (iR1 (e1 gLen (bV 1))) (gN 4) (fAnd (tV (e2 gNe (bV 4) (bV 2))) (tU (eCall C__law_has (aC (e2 gIx (bV 1) (bV 2)) (aC (e2 gIx (bV 1) (bV 4)) (aN)))))) (eV 4)) (eLst (aN)))) (sRet (eC (.bl false))) (sNext))))
        (fun k : Nat => .int k) (badD us) (.bl false) (fun e => ∃ a b c, e = [.fz (ls issues), .fz (.lst (us.map ls)), a, b, c]) (List.range us.length) (fun k hk e he => by
          obtain ⟨a, b, c, rfl⟩ := he
          have hk' : k < us.length := List.mem_range.mp hk
          refine ⟨[.fz (ls issues), .fz (.lst (us.map ls)), .fz (.int k), b, c], by simp, ?_⟩
          have g1 := gIx_map ls us [] k hk'
          have o1 := c_order (us.getD k []) (hvd _ (getD_mem us k [] hk'))
          have c1 := eComp_map (own := [4]) (it := iR1 (e1 gLen (bV 1))) (tg := gN 4) (cond := fAnd (tV (e2 gNe (bV 4) (bV 2))) (tU (eCall C__law_has (aC (e2 gIx (bV 1) (bV 2)) (aC (e2 gIx (bV 1) (bV 4)) (aN)))))) (elt := eV 4) (e := [.fz (ls issues), .fz (.lst (us.map ls)), .fz (.int k), b, c]) (fun j : Nat => .int j)
            (fun j => decide (j ≠ k) && hasB (us.getD k []) (us.getD j [])) (fun j : Nat => .int j) (List.range us.length) (by
              exact iR1_n (by simp) hlu) fun j hj => by
            have hj' : j < us.length := List.mem_range.mp hj
            have g2 := gIx_map ls us [] j hj'
            refine ⟨[.fz (ls issues), .fz (.lst (us.map ls)), .fz (.int k), b, .fz (.int j)], by simp, ?_, fun _ => by simp⟩
            by_cases qj : j = k
            · simp [qj]
            · have : ¬ (j : Int) = k := by omega
              simp [qj, this, g1, g2, c_has, -List.getD_eq_getElem?_getD]
          have c2 := gNe_lst0 (((List.range us.length).filter (fun j => decide (j ≠ k) && hasB (us.getD k []) (us.getD j []))).map fun j : Nat => .int j) (by rw [List.all_map]; simp [pl])
          rw [List.isEmpty_map, filter_any] at c2
          have hB : tV (e2 gNe (eComp [4] (iR1 (e1 gLen (bV 1))) (gN 4) (fAnd (tV (e2 gNe (bV 4) (bV 2))) (tU (eCall C__law_has (aC (e2 gIx (bV 1) (bV 2)) (aC (e2 gIx (bV 1) (bV 4)) (aN)))))) (eV 4)) (eLst (aN))) [.fz (ls issues), .fz (.lst (us.map ls)), .fz (.int k), b, c] = ok (bad2 us k) := by
            simp only [tV_e, e2_e, c1, bR_ok, eLst_e, aN_e, List.length_nil, Nat.zero_le, if_true, c2, asB_bl]
            rfl
          have hA : (fAnd (tV (e2 gGt (bV 2) (eC (.int 0)))) (tV (e2 gLe (eCall C__law_order (aC (e2 gIx (bV 1) (bV 2)) (aN))) (eCall C__law_order (aC (e2 gIx (bV 1) (e2 gSub (bV 2) (eC (.int 1)))) (aN)))))) [.fz (ls issues), .fz (.lst (us.map ls)), .fz (.int k), b, c] = ok (bad1 us k) := by
            unfold bad1
            by_cases k0 : 0 < k
            · have e0 : ((k : Int) - 1) = ((k - 1 : Nat) : Int) := by omega
              have k0' : (0 : Int) < k := by omega
              have g3 := gIx_map ls us [] (k - 1) (by omega)
              have o2 := c_order (us.getD (k - 1) []) (hvd _ (getD_mem us (k - 1) [] (by omega)))
              have o3 := gLe_ord (us.getD k []) (us.getD (k - 1) [])
              simp [k0, g1, g3, o1, o2, o3, e0, k0', -List.getD_eq_getElem?_getD]
            · have k1 : k = 0 := by omega
              subst k1
              simp
          unfold badD
          cases z1 : bad1 us k <;> cases z2 : bad2 us k <;> rw [z1] at hA <;> rw [z2] at hB
          · rw [if_neg (by decide)]
            refine ⟨[.fz (ls issues), .fz (.lst (us.map ls)), .fz (.int k), b, c], .inl ?_, _, _, _, rfl⟩
            simp only [sSeq_e, sIf_e, hA, hB, sE_ok, Bool.false_eq_true, if_false, sNext_e]
          · rw [if_pos (by decide)]
            simp only [sSeq_e, sIf_e, hA, hB, sE_ok, Bool.false_eq_true, if_false, if_true, sNext_e, sRet_e, eC_e]
          · rw [if_pos (by decide)]
            simp only [sSeq_e, sIf_e, hA, sE_ok, if_true, sRet_e, eC_e]
          · rw [if_pos (by decide)]
            simp only [sSeq_e, sIf_e, hA, sE_ok, if_true, sRet_e, eC_e]) [.fz (ls issues), .fz (.lst (us.map ls)), .un, .un, .un] ⟨_, _, _, rfl⟩
      have hr1 : iR1 (e1 gLen (bV 1)) [.fz (ls issues), .fz (.lst (us.map ls)), .un, .un, .un] = ok ((List.range us.length).map fun k : Nat => .int k) := by
        exact iR1_n (by simp) hlu
      rw [ev] at h1
      have st : startE 5 [ls issues, (Va.l vs).d] = [.fz (ls issues), .fz (.lst (us.map ls)), .un, .un, .un] := by simp only [Va.d, ev]; rfl
      simp only [C__law_due, B__law_due, st, duV, q, hus]
      have hc : (fOr (fNot (tU (e1 (gIs "list") (bV 1)))) (tV (e2 gNe (eComp [3] (iA (bV 1)) (gN 3) (fOr (fNot (tU (eCall C__law_is_view (aC (eV 0) (aC (eV 3) (aN)))))) (tV (e2 gEq (bV 3) (eLst (aN))))) (eV 3)) (eLst (aN))))) [.fz (ls issues), .fz (.lst (us.map ls)), .un, .un, .un] = ok false := by
        simp [h1, h2, q]
      simp only [sSeq_e, sIf_e, hc, sE_ok, Bool.false_eq_true, if_false, sNext_e, sFor_e, hr1]
      unfold dueB
      by_cases q2 : (List.range us.length).any (badD us) = true
      · rw [if_pos q2] at key
        simp [key, q2]
      · rw [if_neg q2] at key
        obtain ⟨e', k1, k2⟩ := key
        simp only [Bool.not_eq_true] at q2
        simp [k1, q2]
    · simp only [Bool.not_eq_true] at q
      simp [C__law_due, B__law_due, startE, Va.d, duV, h1, h2, q]
end DL

namespace DL
open PySem PySem.Spec L2
open PyProof.Rows hiding St

/-! ### the two answers are one -/
theorem mem_others {α : Type} (xs : List α) (k : Nat) (x : α) : x ∈ others xs k ↔ ∃ j, j ≠ k ∧ xs[j]? = some x := by
  unfold others
  rw [List.mem_append, List.mem_iff_getElem?, List.mem_iff_getElem?]
  constructor
  · rintro (⟨i, h⟩ | ⟨i, h⟩)
    · rw [List.getElem?_take] at h
      split at h
      · exact ⟨i, by omega, h⟩
      · cases h
    · rw [List.getElem?_drop] at h
      exact ⟨k + 1 + i, by omega, h⟩
  · rintro ⟨j, h1, h2⟩
    rcases Nat.lt_or_gt_of_ne h1 with h | h
    · left
      refine ⟨j, ?_⟩
      rw [List.getElem?_take, if_pos h]; exact h2
    · right
      refine ⟨j - (k + 1), ?_⟩
      rw [List.getElem?_drop, show k + 1 + (j - (k + 1)) = j by omega]; exact h2
theorem getD_some {α : Type} {xs : List α} {k : Nat} {d x : α} (h : xs[k]? = some x) : xs.getD k d = x := by
  rw [List.getD_eq_getElem?_getD, h]; rfl
theorem asc_iff {α : Type} (lt : α → α → Bool) (d : α) (xs : List α) : ascB lt xs = true ↔ ∀ k, 0 < k → k < xs.length → lt (xs.getD (k - 1) d) (xs.getD k d) = true := by
  rw [← all_range lt d xs, List.all_eq_true]
  constructor
  · intro h k k0 k1
    have := h (k - 1) (List.mem_range.mpr (by omega))
    rw [show k - 1 + 1 = k by omega] at this
    exact this
  · intro h k hk
    have hk := List.mem_range.mp hk
    have := h (k + 1) (by omega) (by omega)
    simpa using this
theorem nha_iff (vs : List (List Wd)) : nhaB vs = true ↔ ∀ k, k < vs.length → ∀ j, j < vs.length → j ≠ k → hasB (vs.getD k []) (vs.getD j []) = false := by
  unfold nhaB
  rw [Bool.not_eq_true', List.any_eq_false]
  constructor
  · intro h k hk j hj hjk
    have h1 := h (vs.getD k [], k) (List.mem_zipIdx_iff_getElem?.mpr (by
      rw [List.getD_eq_getElem?_getD, List.getElem?_eq_getElem hk]; rfl))
    simp only [Bool.not_eq_true, List.any_eq_false] at h1
    have := h1 (vs.getD j []) ((mem_others vs k _).mpr ⟨j, hjk, by rw [List.getD_eq_getElem?_getD, List.getElem?_eq_getElem hj]; rfl⟩)
    simpa using this
  · intro h z hz
    have hz := List.mem_zipIdx_iff_getElem?.mp hz
    simp only [Bool.not_eq_true, List.any_eq_false]
    intro x hx
    obtain ⟨j, h1, h2⟩ := (mem_others vs z.2 x).mp hx
    have := h z.2 (List.getElem?_eq_some_iff.mp hz).1 j (List.getElem?_eq_some_iff.mp h2).1 h1
    rw [getD_some hz, getD_some h2] at this
    simpa using this
theorem due_eq (vs : List (List Wd)) : dueB vs = (ascB ltV vs && nhaB vs) := by
  rw [Bool.eq_iff_iff, Bool.and_eq_true, asc_iff ltV [], nha_iff]
  unfold dueB
  rw [Bool.not_eq_true', List.any_eq_false]
  constructor
  · intro h
    refine ⟨fun k k0 k1 => ?_, fun k hk j hj hjk => ?_⟩
    · have := h k (List.mem_range.mpr k1)
      simp only [badD, bad1, Bool.not_eq_true, Bool.or_eq_false_iff] at this
      have h1 := this.1
      rw [decide_eq_true k0, Bool.true_and] at h1
      simpa using h1
    · have := h k (List.mem_range.mpr hk)
      simp only [badD, bad2, Bool.not_eq_true, Bool.or_eq_false_iff] at this
      have h1 := List.any_eq_false.mp this.2 j (List.mem_range.mpr hj)
      rw [decide_eq_true hjk, Bool.true_and] at h1
      simpa using h1
  · rintro ⟨h1, h2⟩ k hk
    have hk := List.mem_range.mp hk
    simp only [badD, bad1, bad2, Bool.not_eq_true, Bool.or_eq_false_iff]
    refine ⟨?_, List.any_eq_false.mpr fun j hj => ?_⟩
    · by_cases k0 : 0 < k
      · rw [h1 k k0 hk]; simp
      · simp [k0]
    · have hj := List.mem_range.mp hj
      by_cases q : j = k
      · simp [q]
      · rw [h2 k hk j hj q]; simp
theorem du_is (issues : List Wd) (v : Va) : duV issues v = isB issues v := by
  cases v with
  | l vs => simp only [duV, isB, due_eq]
  | _ => rfl

/-! ### numbers -/
@[simp] theorem gMul_r (a b : Int) (h : b.natAbs < 18446744073709551616) : gMul (.int a) (.int b) = ok (.int (a * b)) := by
  show (if _ then _ else _) = _
  rw [if_pos (.inr h)]
@[simp] theorem gMul_l (a b : Int) (h : a.natAbs < 18446744073709551616) : gMul (.int a) (.int b) = ok (.int (a * b)) := by
  show (if _ then _ else _) = _
  rw [if_pos (.inl h)]
@[simp] theorem gMod_i (a b : Int) (h : 0 < b) : gMod (.int a) (.int b) = ok (.int (a % b)) := by
  show (if _ then _ else _) = _
  rw [if_pos h]
@[simp] theorem gDiv_i (a b : Int) (h : 0 < b ∧ b.natAbs < 1073741824) : gDiv (.int a) (.int b) = ok (.int (a / b)) := by
  show (if _ then _ else _) = _
  rw [if_pos h]
theorem gPow_i (a b : Int) (h : 0 ≤ b ∧ b.natAbs ≤ 1000 ∧ a.natAbs < 18446744073709551616) : gPow (.int a) (.int b) = ok (.int (a ^ b.toNat)) := by
  show (if _ then _ else _) = _
  rw [if_pos h]
theorem pow18 : gPow (.int 10) (.int 18) = ok (.int 1000000000000000000) := (gPow_i 10 18 (by decide)).trans rfl
/-- a list of small numbers -/
def Nums (xs : List Int) : Prop := ∀ x ∈ xs, 0 ≤ x ∧ x < 1009
theorem gIx_scr (ns : List Int) (k : Nat) (h : k < ns.length) : gIx (.scr ns) (.int k) = ok (.int ns[k]) := by
  show (atI ns k).elim none (fun n => ok (D.int n)) = _
  have : atI ns (k : Int) = some ns[k] := by
    unfold atI ixN
    simp [h]
  rw [this]; rfl
@[simp] theorem sApp_ow (i : Nat) (f : En → R D) (e : En) : sApp i f e = match e[i]? with
  | some (.ow (.lst xs)) => sE (f e) e fun d => if xs.length < 16777216 then some (.nx (e.set i (.ow (.lst (xs ++ [d]))))) else none
  | _ => none := id rfl
@[simp] theorem sRetV_e (i : Nat) (e : En) : sRetV i e = match e[i]? with
  | some (.ow d) => some (.rf d)
  | _ => none := id rfl
def nBody : FS := (sIf (tV (e2 gGe (bV 3) (e2 gPow (eC (.int 10)) (eC (.int 18))))) (sSeq (sApp 4 (e2 gMod (bV 3) (eC (.int 1009)))) (sSet 3 (e2 gDiv (bV 3) (eC (.int 1009))))) (sSeq (sSet 6 (e2 gMod (e2 gAdd (e2 gAdd (e2 gMul (bV 3) (eC (.int 48271))) (e2 gMul (e2 gAdd (bV 5) (eC (.int 1))) (eC (.int 69621)))) (e2 gMul (bV 1) (eC (.int 4001)))) (eC (.int 2147483647)))) (sSeq (sSet 6 (e2 gMod (e2 gAdd (e2 gMul (bV 6) (bV 6)) (e2 gMul (eC (.int 16807)) (e2 gAdd (bV 5) (eC (.int 3))))) (eC (.int 2147483629)))) (sApp 4 (e2 gMod (e2 gDiv (bV 6) (eC (.int 7))) (eC (.int 1009)))))))
theorem n_step (ns : List Int) (at' cnt : Int) (cell : Int) (acc : List Int) (k : Nat) (m : Sl) (hc : 0 ≤ cell) (ha : acc.length ≤ 1000) :
    ∃ cell' x m', 0 ≤ cell' ∧ (0 ≤ x ∧ x < 1009) ∧ nBody [.fz (.scr ns), .fz (.int at'), .fz (.int cnt), .fz (.int cell), .ow (is acc), .fz (.int k), m] = some (.nx [.fz (.scr ns), .fz (.int at'), .fz (.int cnt), .fz (.int cell'), .ow (is (acc ++ [x])), .fz (.int k), m']) := by
  have ha2 : acc.length < 16777216 := by omega
  unfold nBody
  by_cases q : (1000000000000000000 : Int) ≤ cell
  · refine ⟨cell / 1009, cell % 1009, m, by omega, by omega, ?_⟩
    simp [pow18, q, is, ha2]
  · generalize hm1 : (cell * 48271 + (↑k + 1) * 69621 + at' * 4001) % 2147483647 = m1
    have b1 : 0 ≤ m1 ∧ m1 < 2147483647 := by omega
    have b2 : m1.natAbs < 18446744073709551616 := by omega
    generalize hm2 : (m1 * m1 + 16807 * (↑k + 3)) % 2147483629 = m2
    refine ⟨cell, m2 / 7 % 1009, .fz (.int m2), hc, by omega, ?_⟩
    simp [pow18, q, is, ha2, hm1, b2, hm2]
theorem c_numbers (ns : List Int) (at' cnt : Nat) (h : cnt ≤ 1000) : ∃ xs, C__law_numbers [.scr ns, .int at', .int cnt] = ok (is xs) ∧ xs.length = cnt ∧ Nums xs := by
  have start : ∃ cell : Int, 0 ≤ cell ∧ ∀ g : FS, (sSeq (sSet 3 (e2 gMul (eC (.int 1000003)) (e2 gAdd (bV 1) (eC (.int 1))))) (sSeq (sIf (tV (e2 gLt (bV 1) (e1 gLen (bV 0)))) (sSet 3 (e1 gInt (e2 gIx (bV 0) (bV 1)))) (sNext)) (sSeq (sIf (tV (e2 gLt (bV 3) (eC (.int 0)))) (sSet 3 (e2 gSub (eC (.int 1)) (e2 gMul (eC (.int 2)) (bV 3)))) (sNext)) g))) [.fz (.scr ns), .fz (.int at'), .fz (.int cnt), .un, .un, .un, .un] =
      g [.fz (.scr ns), .fz (.int at'), .fz (.int cnt), .fz (.int cell), .un, .un, .un] := by
    have first : ∃ c1 : Int, ∀ g : FS, (sSeq (sSet 3 (e2 gMul (eC (.int 1000003)) (e2 gAdd (bV 1) (eC (.int 1))))) (sSeq (sIf (tV (e2 gLt (bV 1) (e1 gLen (bV 0)))) (sSet 3 (e1 gInt (e2 gIx (bV 0) (bV 1)))) (sNext)) g)) [.fz (.scr ns), .fz (.int at'), .fz (.int cnt), .un, .un, .un, .un] =
        g [.fz (.scr ns), .fz (.int at'), .fz (.int cnt), .fz (.int c1), .un, .un, .un] := by
      have gl : gLen (.scr ns) = ok (.int ns.length) := rfl
      by_cases q : at' < ns.length
      · have q2 : ((at' : Nat) : Int) < ns.length := by omega
        exact ⟨ns[at'], fun g => by simp [gl, q2, gIx_scr ns at' q]⟩
      · have q2 : ¬ ((at' : Nat) : Int) < ns.length := by omega
        exact ⟨1000003 * (at' + 1), fun g => by simp [gl, q2]⟩
    obtain ⟨c1, h1⟩ := first
    by_cases q : c1 < 0
    · refine ⟨1 - 2 * c1, by omega, fun g => ?_⟩
      rw [h1]
      simp [q]
    · refine ⟨c1, by omega, fun g => ?_⟩
      rw [h1]
      simp [q]
  obtain ⟨cell, hc, hs⟩ := start
  obtain ⟨e', h1, cell', acc, k', m', rfl, h3, h4, h5⟩ := forS_all (tg := gN 5) (body := nBody) (fun k : Nat => .int k) (fun r e => ∃ (cell : Int) (acc : List Int) (k m : Sl), e = [.fz (.scr ns), .fz (.int at'), .fz (.int cnt), .fz (.int cell), .ow (is acc), k, m] ∧ 0 ≤ cell ∧ acc.length + r.length = cnt ∧ Nums acc) (List.range cnt)
    (fun a r e _ ⟨cell, acc, k, m, he, h1, h2, h3⟩ => by
      subst he
      obtain ⟨cell', x, m', h4, h5, h6⟩ := n_step ns at' cnt cell acc a m h1 (by simp at h2; omega)
      refine ⟨_, rfl, _, .inl h6, cell', acc ++ [x], _, m', rfl, h4, by simp at h2 ⊢; omega, fun y hy => ?_⟩
      rcases List.mem_append.mp hy with hy | hy
      · exact h3 y hy
      · rw [List.mem_singleton] at hy; subst hy; exact h5)
    [.fz (.scr ns), .fz (.int at'), .fz (.int cnt), .fz (.int cell), .ow (is []), .un, .un] ⟨cell, [], _, _, rfl, hc, by simp, fun _ hy => by simp at hy⟩
  refine ⟨acc, ?_, by simpa using h4, h5⟩
  unfold C__law_numbers
  show toRF (B__law_numbers [.fz (.scr ns), .fz (.int at'), .fz (.int cnt), .un, .un, .un, .un]) = _
  unfold B__law_numbers
  rw [hs]
  have hr : iR1 (eV 2) [.fz (.scr ns), .fz (.int at'), .fz (.int cnt), .fz (.int cell), .ow (is []), .un, .un] = ok ((List.range cnt).map fun k : Nat => .int k) := iR1_n rfl h
  unfold nBody at h1
  simp only [sSeq_e, sSetO_e, eLst_e, aN_e, bR_ok, List.length_nil, Nat.zero_le, if_true, sE_ok, List.set_cons_succ, List.set_cons_zero, sFor_e]
  unfold is at hr h1
  simp only [List.map_nil] at hr h1
  rw [hr]
  simp only [sE_ok, h1]
  rfl
end DL

namespace DL
open PySem PySem.Spec L2
open PyProof.Rows hiding St

/-! ### sorting -/
def sortT {α : Type} (enc : α → D) (xs : List α) : List α := xs.mergeSort fun a b => !dlt (enc b) (enc a)
theorem total_le {α : Type} (enc : α → D) : PySem.W.TotalLe (fun a b : α => !dlt (enc b) (enc a)) := PySem.W.sortLe_total (listOrd itemOrd) false fun a => PySem.W.keyToks (P (enc a))
theorem sortT_perm {α : Type} (enc : α → D) (xs : List α) : (sortT enc xs).Perm xs := List.mergeSort_perm _ _
theorem sortT_mem {α : Type} (enc : α → D) (xs : List α) (x : α) : x ∈ sortT enc xs ↔ x ∈ xs := (sortT_perm enc xs).mem_iff
theorem sortT_len {α : Type} (enc : α → D) (xs : List α) : (sortT enc xs).length = xs.length := (sortT_perm enc xs).length_eq
theorem sortT_pw {α : Type} (enc : α → D) (xs : List α) : (sortT enc xs).Pairwise fun a b => dlt (enc b) (enc a) = false := by
  have := PySem.W.sort_pairwise (total_le enc) xs
  exact this.imp fun {a b} h => by simpa using h
theorem sortD_map {α : Type} (enc : α → D) (xs : List α) : sortD (xs.map enc) = (sortT enc xs).map enc := by
  unfold sortD sortT
  rw [PySem.W.sort_maps enc (s := fun a b => !dlt b a) (fun _ _ _ _ => rfl)]
theorem gSorted_map {α : Type} (enc : α → D) (xs : List α) (hl : xs.length ≤ 16777216) (h8 : ∀ x ∈ xs, pl 8 (enc x) = true) (ha : ∀ x ∈ xs, ∀ y ∈ xs, dal (enc x) (enc y) = true)
    (hk : (∀ x ∈ xs, isTupC (enc x) = true) ∨ ∀ x ∈ xs, isNon (enc x) = false ∧ isTup (enc x) = false) : gSorted (.lst (xs.map enc)) = ok (.lst ((sortT enc xs).map enc)) := by
  show (if _ then _ else _) = _
  rw [if_pos, sortD_map]
  unfold sortOk
  simp only [Bool.and_eq_true, Bool.or_eq_true, List.all_eq_true, decide_eq_true_eq, List.length_map, List.mem_map]
  refine ⟨⟨⟨hl, ?_⟩, ?_⟩, ?_⟩
  · rintro _ ⟨x, hx, rfl⟩; exact h8 x hx
  · rintro _ ⟨x, hx, rfl⟩ _ ⟨y, hy, rfl⟩; exact ha x hx y hy
  · rcases hk with hk | hk
    · left; rintro _ ⟨x, hx, rfl⟩; exact hk x hx
    · right; rintro _ ⟨x, hx, rfl⟩; rw [(hk x hx).1, (hk x hx).2]; exact ⟨rfl, rfl⟩
def sortW (ws : List Wd) : List Wd := sortT s ws
theorem gSorted_ls (ws : List Wd) (h : ws.length ≤ 16777216) : gSorted (ls ws) = ok (ls (sortW ws)) := gSorted_map s ws h (fun x _ => pl_s 8 x) (fun x _ y _ => dal_s x y) (.inr fun x _ => ⟨rfl, rfl⟩)
theorem asc_of_sort {α : Type} {R : α → α → Prop} (hR : ∀ a b, ¬ R b a → a ≠ b → R a b) : ∀ {l : List α}, l.Pairwise (fun a b => ¬ R b a) → l.Nodup → l.Pairwise R
  | [], _, _ => .nil
  | x :: l, h, n => by
    have h := List.pairwise_cons.mp h
    have n := List.nodup_cons.mp n
    exact List.pairwise_cons.mpr ⟨fun y hy => hR x y (h.1 y hy) fun z => n.1 (z ▸ hy), asc_of_sort hR h.2 n.2⟩
theorem sortW_asc (ws : List Wd) (h : ws.Nodup) : Asc (sortW ws) := by
  refine asc_of_sort (fun a b h1 h2 => ?_) ((sortT_pw s ws).imp fun {a b} h => ?_) ((sortT_perm s ws).nodup_iff.mpr h)
  · rcases Decidable.em (a < b) with h | h
    · exact h
    · exact absurd (List.le_antisymm (List.not_lt.mp h1) (List.not_lt.mp h)) h2
  · rw [dlt_s] at h
    simpa using h

/-! ### names -/
def Low (w : Wd) : Prop := ∀ c ∈ w, (97 ≤ c ∧ c ≤ 122) ∨ (48 ≤ c ∧ c ≤ 57)
/-- a name -/
def Nm (w : Wd) : Prop := w ≠ [] ∧ w.length ≤ 12 ∧ Low w
def lets : Wd := (List.range 26).map (· + 97)
def sgns : Wd := lets ++ (List.range 10).map (· + 48)
theorem litL : (D.str "abcdefghijklmnopqrstuvwxyz") = s lets := by rfl
theorem litF : (D.str "0123456789") = s ((List.range 10).map (· + 48)) := by rfl
@[simp] theorem gAdd_s (a b : Wd) (h : a.length + b.length ≤ 16777216) : gAdd (s a) (s b) = ok (s (a ++ b)) := by
  show (if _ then _ else _) = _
  rw [if_pos (by rw [s_len, s_len]; exact h), s_app]
  rfl
theorem gIx_sn (w : Wd) (k : Nat) (h : k < w.length) (hl : w.length ≤ 16777216) : gIx (s w) (.int k) = ok (s [w[k]]) := by
  rw [gIx_s _ _ hl]
  have : atI w (k : Int) = some w[k] := by
    unfold atI ixN
    simp [h]
  rw [this]; rfl
theorem atI_last' {α : Type} (xs : List α) (h : xs ≠ []) : atI xs (-1) = some (xs.getLast h) := by
  have e := List.dropLast_concat_getLast h
  have := atI_last xs.dropLast (xs.getLast h)
  rw [e] at this
  exact this
theorem gIx_last (xs : List D) (h : xs ≠ []) : gIx (.lst xs) (.int (-1)) = ok (xs.getLast h) := by
  show (atI xs (-1)).elim none ok = _
  rw [atI_last' xs h]; rfl
theorem gIx_slast (w : Wd) (h : w ≠ []) (hl : w.length ≤ 16777216) : gIx (s w) (.int (-1)) = ok (s [w.getLast h]) := by
  rw [gIx_s _ _ hl, atI_last' w h]; rfl
theorem low_app {a b : Wd} (h : Low a) (k : Low b) : Low (a ++ b) := fun c hc => by
  rcases List.mem_append.mp hc with h1 | h1
  · exact h c h1
  · exact k c h1
theorem low_lets : Low lets := by
  intro c hc
  obtain ⟨k, hk, rfl⟩ := List.mem_map.mp hc
  have := List.mem_range.mp hk
  omega
theorem low_sgns : Low sgns := low_app low_lets fun c hc => by
  obtain ⟨k, hk, rfl⟩ := List.mem_map.mp hc
  have := List.mem_range.mp hk
  omega
theorem low_one {w : Wd} (h : Low w) {c : Nat} (hc : c ∈ w) : Low [c] := fun d hd => by
  rw [List.mem_singleton] at hd; subst hd; exact h _ hc
theorem lets_len : lets.length = 26 := by simp [lets]
theorem sgns_len : sgns.length = 36 := by simp [sgns, lets]
/-- the place of a remainder -/
theorem gIx_sm (w : Wd) (i : Int) (n : Nat) (hn : w.length = n) (h0 : 0 < n) (hl : n ≤ 1000) : ∃ c, c ∈ w ∧ gIx (s w) (.int (i % (n : Int))) = ok (s [c]) := by
  have h1 : 0 ≤ i % (n : Int) := Int.emod_nonneg _ (by omega)
  have h2 : i % (n : Int) < n := Int.emod_lt_of_pos _ (by omega)
  obtain ⟨k, hk⟩ := Int.eq_ofNat_of_zero_le h1
  have hk2 : k < w.length := by omega
  refine ⟨w[k], List.getElem_mem hk2, ?_⟩
  rw [hk]
  exact gIx_sn w k hk2 (by omega)
theorem iR1_n' {f : En → R D} {e : En} {n : Int} {m : Nat} (hf : f e = ok (.int n)) (hm : n = (m : Int)) (h : m ≤ 1000) : iR1 f e = ok ((List.range m).map fun k : Nat => .int k) := by
  subst hm; exact iR1_n hf h
def nmBody : FS := (sSeq (sSet 2 (e2 gMod (e2 gAdd (e2 gAdd (e2 gAdd (e2 gMul (bV 2) (eC (.int 8191))) (bV 0)) (e2 gMul (bV 6) (eC (.int 77)))) (eC (.int 5))) (eC (.int 1000003)))) (sSet 5 (e2 gAdd (bV 5) (e2 gIx (bV 4) (e2 gMod (bV 2) (eC (.int 36)))))))
theorem c_name (a b c : Int) (hb : 0 ≤ b) : ∃ w, C__law_name [.int a, .int b, .int c] = ok (s w) ∧ Nm w := by
  obtain ⟨c0, hc0, g0⟩ := gIx_sm lets a 26 lets_len (by omega) (by omega)
  have hn : ∃ n : Nat, b % 12 = (n : Int) ∧ n ≤ 11 := ⟨(b % 12).toNat, by omega, by omega⟩
  obtain ⟨n, hn, hn2⟩ := hn
  obtain ⟨e', h1, m, w, k, rfl, h2, h3, h4⟩ := forS_all (tg := gN 6) (body := nmBody) (fun k : Nat => .int k) (fun r e => ∃ (m : Int) (w : Wd) (k : Sl), e = [.fz (.int a), .fz (.int b), .fz (.int m), .fz (s lets), .fz (s sgns), .fz (s w), k] ∧ w ≠ [] ∧ w.length + r.length = n + 1 ∧ Low w) (List.range n)
    (fun k r e _ ⟨m, w, k', he, h1, h2, h3⟩ => by
      subst he
      have hw : w.length ≤ 12 := by simp at h2; omega
      generalize hm : (m * 8191 + a + ↑k * 77 + 5) % 1000003 = m'
      obtain ⟨d, hd, g1⟩ := gIx_sm sgns m' 36 sgns_len (by omega) (by omega)
      replace g1 : gIx (s sgns) (.int (m' % 36)) = ok (s [d]) := g1
      refine ⟨_, rfl, [.fz (.int a), .fz (.int b), .fz (.int m'), .fz (s lets), .fz (s sgns), .fz (s (w ++ [d])), .fz (.int k)], .inl ?_, m', w ++ [d], _, rfl, by simp, by simp at h2 ⊢; omega, low_app h3 (low_one low_sgns hd)⟩
      have g2 : gAdd (s w) (s [d]) = ok (s (w ++ [d])) := gAdd_s _ _ (by simp; omega)
      simp [nmBody, hm, g1, g2])
    [.fz (.int a), .fz (.int b), .fz (.int c), .fz (s lets), .fz (s sgns), .fz (s [c0]), .un] ⟨c, [c0], _, rfl, by simp, by simp; omega, low_one low_lets hc0⟩
  refine ⟨w, ?_, h2, by simp at h3; omega, h4⟩
  have g3 : gAdd (s lets) (s ((List.range 10).map (· + 48))) = ok (s sgns) := gAdd_s _ _ (by simp [lets])
  replace g0 : gIx (s lets) (.int (a % 26)) = ok (s [c0]) := g0
  have hr : iR1 (e2 gMod (bV 1) (eC (.int 12))) [.fz (.int a), .fz (.int b), .fz (.int c), .fz (s lets), .fz (s sgns), .fz (s [c0]), .un] = ok ((List.range n).map fun k : Nat => .int k) := iR1_n' (n := b % 12) (by simp) hn (by omega)
  unfold nmBody at h1
  simp [C__law_name, B__law_name, startE, litL, litF, g3, g0, hr, h1]
end DL

namespace DL
open PySem PySem.Spec L2
open PyProof.Rows hiding St

theorem forS_range' {tg : FG} {body : FS} (P : Nat → En → Prop) : ∀ (m a : Nat),
    (∀ j, a ≤ j → j < a + m → ∀ e, P j e → ∃ e1, tg (.int j) e = some e1 ∧ ∃ e2, (body e1 = some (.nx e2) ∨ body e1 = some (.ct e2)) ∧ P (j + 1) e2) →
    ∀ e, P a e → ∃ e', forS tg body ((List.range' a m).map fun k : Nat => .int k) e = some (.nx e') ∧ P (a + m) e'
  | 0, a, _, e, he => ⟨e, rfl, he⟩
  | m + 1, a, h, e, he => by
    obtain ⟨e1, h1, e2, h2, h3⟩ := h a (Nat.le_refl _) (by omega) e he
    obtain ⟨e', h4, h5⟩ := forS_range' P m (a + 1) (fun j h1 h2 => h j (by omega) (by omega)) e2 h3
    refine ⟨e', ?_, by rw [show a + (m + 1) = a + 1 + m by omega]; exact h5⟩
    rw [List.range'_succ, List.map_cons]
    simp only [forS, h1]
    rcases h2 with h2 | h2 <;> simpa [h2] using h4
theorem forS_range {tg : FG} {body : FS} (P : Nat → En → Prop) (n : Nat)
    (h : ∀ j, j < n → ∀ e, P j e → ∃ e1, tg (.int j) e = some e1 ∧ ∃ e2, (body e1 = some (.nx e2) ∨ body e1 = some (.ct e2)) ∧ P (j + 1) e2) (e : En) (he : P 0 e) :
    ∃ e', forS tg body ((List.range n).map fun k : Nat => .int k) e = some (.nx e') ∧ P n e' := by
  have := forS_range' P n 0 (fun j _ h2 => h j (by omega)) e he
  rw [← List.range_eq_range', Nat.zero_add] at this
  exact this
theorem len_le_of_sub {α : Type} [DecidableEq α] : ∀ {xs ys : List α}, xs.Nodup → (∀ x ∈ xs, x ∈ ys) → xs.length ≤ ys.length
  | [], _, _, _ => Nat.zero_le _
  | x :: xs, ys, n, h => by
    have n := List.nodup_cons.mp n
    have hx := h x (by simp)
    have := len_le_of_sub (xs := xs) (ys := ys.erase x) n.2 fun y hy => (List.mem_erase_of_ne (fun z => n.1 (by rw [← z]; exact hy))).mpr (h y (by simp [hy]))
    rw [List.length_erase_of_mem hx] at this
    have := List.length_pos_of_mem hx
    simp only [List.length_cons]; omega

/-- the letter at a step -/
def lt26 (one : Int) (j : Nat) : Nat := 97 + ((one + j) % 26).toNat
theorem gIx_lt26 (one : Int) (j : Nat) : gIx (s lets) (.int ((one + j) % 26)) = ok (s [lt26 one j]) := by
  have h1 : 0 ≤ (one + j) % 26 := Int.emod_nonneg _ (by omega)
  have h2 : (one + j) % 26 < 26 := Int.emod_lt_of_pos _ (by omega)
  obtain ⟨k, hk⟩ := Int.eq_ofNat_of_zero_le h1
  have hk2 : k < lets.length := by rw [lets_len]; omega
  unfold lt26
  rw [hk, gIx_sn lets k hk2 (by rw [lets_len]; omega)]
  simp [lets, Nat.add_comm]
theorem lt26_inj {one : Int} {i j : Nat} (hi : i < 26) (hj : j < 26) (h : lt26 one i = lt26 one j) : i = j := by
  unfold lt26 at h
  omega
theorem lt26_low (one : Int) (j : Nat) : 97 ≤ lt26 one j ∧ lt26 one j ≤ 122 := by
  unfold lt26; omega
def iBody : FS := (sIf (tV (e2 gIn (bV 8) (bV 3))) (sSet 8 (e2 gAdd (e2 gIx (bV 2) (e2 gMod (e2 gAdd (bV 5) (bV 9)) (eC (.int 26)))) (eSl gSl (bV 8) (oS (eC (.int 1))) (oN)))) (sNext))
/-- a free name is found -/
theorem n_inner (d0 d1 : D) (found : List Wd) (hf : found.length ≤ 25) (sk ssz smx : Sl) (one : Int) (name : Wd) (hn : Nm name) (sst : Sl) :
    ∃ name' st, forS (gN 9) iBody ((List.range 26).map fun k : Nat => .int k) [.fz d0, .fz d1, .fz (s lets), .ow (ls found), sk, .fz (.int one), ssz, smx, .fz (s name), sst] = some (.nx [.fz d0, .fz d1, .fz (s lets), .ow (ls found), sk, .fz (.int one), ssz, smx, .fz (s name'), st]) ∧ Nm name' ∧ name' ∉ found := by
  obtain ⟨e', h1, nm, st, rfl, h2, h3, h4⟩ := forS_range (tg := gN 9) (body := iBody)
    (fun j e => ∃ nm st, e = [.fz d0, .fz d1, .fz (s lets), .ow (ls found), sk, .fz (.int one), ssz, smx, .fz (s nm), st] ∧ Nm nm ∧ nm.tail = name.tail ∧
      (nm ∉ found ∨ j = 0 ∨ (nm = lt26 one (j - 1) :: name.tail ∧ ∀ i, i < j - 1 → (lt26 one i :: name.tail) ∈ found))) 26
    (fun j hj e ⟨nm, st, he, h1, h2, h3⟩ => by
      subst he
      refine ⟨_, rfl, ?_⟩
      by_cases q : nm ∈ found
      · have hl : nm.length ≤ 16777216 := by have := h1.2.1; omega
        have g1 := gIx_lt26 one j
        have g2 : gAdd (s [lt26 one j]) (s nm.tail) = ok (s (lt26 one j :: nm.tail)) := gAdd_s _ _ (by have := h1.2.1; simp; omega)
        refine ⟨[.fz d0, .fz d1, .fz (s lets), .ow (ls found), sk, .fz (.int one), ssz, smx, .fz (s (lt26 one j :: nm.tail)), .fz (.int j)], .inl ?_, _, _, rfl, ⟨by simp, by have := h1.2.1; simp; omega, ?_⟩, h2, .inr (.inr ⟨by rw [h2]; simp, fun i hi => ?_⟩)⟩
        · simp [iBody, q, g1, hl, g2]
        · intro c hc
          rcases List.mem_cons.mp hc with rfl | hc
          · exact .inl (lt26_low one j)
          · exact h1.2.2 c (List.mem_of_mem_tail hc)
        · rcases h3 with h3 | h3 | ⟨h3, h4⟩
          · exact absurd q h3
          · omega
          · by_cases q2 : i = j - 1
            · subst q2; rw [← h3]; exact q
            · exact h4 i (by omega)
      · refine ⟨[.fz d0, .fz d1, .fz (s lets), .ow (ls found), sk, .fz (.int one), ssz, smx, .fz (s nm), .fz (.int j)], .inl ?_, _, _, rfl, h1, h2, .inl q⟩
        simp [iBody, q])
    [.fz d0, .fz d1, .fz (s lets), .ow (ls found), sk, .fz (.int one), ssz, smx, .fz (s name), sst] ⟨name, sst, rfl, hn, rfl, .inr (.inl rfl)⟩
  refine ⟨nm, st, h1, h2, ?_⟩
  rcases h4 with h4 | h4 | ⟨h4, h5⟩
  · exact h4
  · omega
  · intro q
    have : ((List.range 26).map fun i => lt26 one i :: name.tail).length ≤ found.length := by
      refine len_le_of_sub ?_ fun x hx => ?_
      · refine (List.pairwise_map.mpr (List.pairwise_iff_getElem.mpr fun i j hi hj hij => ?_))
        simp only [List.getElem_range]
        intro z
        have := lt26_inj (by simpa using hi) (by simpa using hj) (List.cons.inj z).1
        omega
      · obtain ⟨i, hi, rfl⟩ := List.mem_map.mp hx
        have hi := List.mem_range.mp hi
        by_cases q2 : i = 25
        · subst q2; rw [h4] at q; exact q
        · exact h5 i (by omega)
    simp at this
    omega
theorem gIx_is (xs : List Int) (i : Int) (k : Nat) (hi : i = (k : Int)) (h : k < xs.length) : gIx (is xs) (.int i) = ok (.int xs[k]) := by
  subst hi
  unfold is
  rw [gIx_lst _ k (by simpa using h)]
  simp
theorem sSeq_assoc (f g h : FS) (e : En) : sSeq f (sSeq g h) e = sSeq (sSeq f g) h e := by
  unfold sSeq
  cases f e with
  | none => rfl
  | some r => cases r <;> rfl
def oBody : FS := (sSeq (sPar3 5 6 7 (aC (e2 gIx (bV 0) (e2 gMul (eC (.int 3)) (bV 4))) (aC (e2 gIx (bV 0) (e2 gAdd (e2 gMul (eC (.int 3)) (bV 4)) (eC (.int 1)))) (aC (e2 gIx (bV 0) (e2 gAdd (e2 gMul (eC (.int 3)) (bV 4)) (eC (.int 2)))) (aN))))) (sSeq (sSet 8 (eCall C__law_name (aC (eV 5) (aC (eV 6) (aC (eV 7) (aN)))))) (sSeq (sIf (fAnd (tV (e2 gGt (bV 4) (eC (.int 0)))) (fAnd (tV (e2 gEq (e2 gMod (bV 7) (eC (.int 3))) (eC (.int 0)))) (tV (e2 gLt (e1 gLen (e2 gIx (bV 3) (e1 gNeg (eC (.int 1))))) (eC (.int 12)))))) (sSet 8 (e2 gAdd (e2 gIx (bV 3) (e1 gNeg (eC (.int 1)))) (e2 gIx (bV 8) (e1 gNeg (eC (.int 1)))))) (sNext)) (sSeq (sFor (iR1 (eC (.int 26))) (gN 9) iBody) (sApp 3 (eV 8))))))
@[simp] theorem sPar3_e (i j k : Nat) (fs : En → R (List D)) (e : En) : sPar3 i j k fs e = sE (fs e) e fun ds => match ds with
  | [x, y, z] => some (.nx (((e.set i (.fz x)).set j (.fz y)).set k (.fz z)))
  | _ => none := id rfl
@[simp] theorem gNeg_i (a : Int) : gNeg (.int a) = ok (.int (-a)) := rfl
theorem gLen_s (w : Wd) (h : w.length ≤ 16777216) : gLen (s w) = ok (.int w.length) := by
  unfold gLen s
  simp only [s_len, h, if_true]
theorem n_outer (xs : List Int) (cnt : Nat) (hx : Nums xs) (hl : 3 * cnt ≤ xs.length) (hc : cnt ≤ 25) (found : List Wd) (k : Nat) (hk : k < cnt) (hf : found.length = k) (hn : ∀ w ∈ found, Nm w) (hd : found.Nodup) (a5 a6 a7 a8 a9 : Sl) :
    ∃ name b5 b6 b7 b8 b9, oBody [.fz (is xs), .fz (.int cnt), .fz (s lets), .ow (ls found), .fz (.int k), a5, a6, a7, a8, a9] = some (.nx [.fz (is xs), .fz (.int cnt), .fz (s lets), .ow (ls (found ++ [name])), .fz (.int k), b5, b6, b7, b8, b9]) ∧ Nm name ∧ name ∉ found := by
  have g1 := gIx_is xs (3 * k) (3 * k) (by omega) (by omega)
  have g2 := gIx_is xs (3 * k + 1) (3 * k + 1) (by omega) (by omega)
  have g3 := gIx_is xs (3 * k + 2) (3 * k + 2) (by omega) (by omega)
  have hb := hx _ (List.getElem_mem (show 3 * k + 1 < xs.length by omega))
  generalize xs[3 * k]'(by omega) = one at *
  generalize xs[3 * k + 1]'(by omega) = size at *
  generalize xs[3 * k + 2]'(by omega) = mix at *
  obtain ⟨w0, c0, n0⟩ := c_name one size mix hb.1
  -- the name that is tried
  have hif : ∃ w1, Nm w1 ∧ (sIf (fAnd (tV (e2 gGt (bV 4) (eC (.int 0)))) (fAnd (tV (e2 gEq (e2 gMod (bV 7) (eC (.int 3))) (eC (.int 0)))) (tV (e2 gLt (e1 gLen (e2 gIx (bV 3) (e1 gNeg (eC (.int 1))))) (eC (.int 12)))))) (sSet 8 (e2 gAdd (e2 gIx (bV 3) (e1 gNeg (eC (.int 1)))) (e2 gIx (bV 8) (e1 gNeg (eC (.int 1)))))) (sNext))
      [.fz (is xs), .fz (.int cnt), .fz (s lets), .ow (ls found), .fz (.int k), .fz (.int one), .fz (.int size), .fz (.int mix), .fz (s w0), a9] = some (.nx [.fz (is xs), .fz (.int cnt), .fz (s lets), .ow (ls found), .fz (.int k), .fz (.int one), .fz (.int size), .fz (.int mix), .fz (s w1), a9]) := by
    by_cases k0 : 0 < k
    · have k0' : (0 : Int) < k := by omega
      have hfn : found ≠ [] := by intro z; rw [z] at hf; simp at hf; omega
      have hfm : found.map s ≠ [] := by simpa using hfn
      have gl : gIx (ls found) (.int (-1)) = ok (s (found.getLast hfn)) := by
        unfold ls
        rw [gIx_last _ hfm, List.getLast_map]
      have hL := hn _ (List.getLast_mem hfn)
      generalize found.getLast hfn = w at *
      have gw : gLen (s w) = ok (.int w.length) := gLen_s w (by have := hL.2.1; omega)
      have g0 := gIx_slast w0 n0.1 (by have := n0.2.1; omega)
      by_cases q : mix % 3 = 0
      · by_cases q2 : w.length < 12
        · have q2' : (w.length : Int) < 12 := by omega
          refine ⟨w ++ [w0.getLast n0.1], ⟨by simp, by simp; omega, low_app hL.2.2 (low_one n0.2.2 (List.getLast_mem n0.1))⟩, ?_⟩
          have ga : gAdd (s w) (s [w0.getLast n0.1]) = ok (s (w ++ [w0.getLast n0.1])) := gAdd_s _ _ (by simp; omega)
          simp [k0, k0', q, gl, gw, q2, q2', g0, ga]
        · have q2' : ¬ (w.length : Int) < 12 := by omega
          exact ⟨w0, n0, by simp [k0, k0', q, gl, gw, q2, q2']⟩
      · exact ⟨w0, n0, by simp [k0, k0', q]⟩
    · have k0' : ¬ (0 : Int) < k := by omega
      exact ⟨w0, n0, by simp [k0, k0']⟩
  obtain ⟨w1, n1, hif⟩ := hif
  obtain ⟨name, st, h1, h2, h3⟩ := n_inner (is xs) (.int cnt) found (by omega) (.fz (.int k)) (.fz (.int size)) (.fz (.int mix)) one w1 n1 a9
  refine ⟨name, .fz (.int one), .fz (.int size), .fz (.int mix), .fz (s name), st, ?_, h2, h3⟩
  have hr : ∀ e, iR1 (eC (.int 26)) e = ok ((List.range 26).map fun k : Nat => .int k) := fun e => iR1_n (n := 26) rfl (by omega)
  have hs : (sSeq (sPar3 5 6 7 (aC (e2 gIx (bV 0) (e2 gMul (eC (.int 3)) (bV 4))) (aC (e2 gIx (bV 0) (e2 gAdd (e2 gMul (eC (.int 3)) (bV 4)) (eC (.int 1)))) (aC (e2 gIx (bV 0) (e2 gAdd (e2 gMul (eC (.int 3)) (bV 4)) (eC (.int 2)))) (aN))))) (sSet 8 (eCall C__law_name (aC (eV 5) (aC (eV 6) (aC (eV 7) (aN))))))) [.fz (is xs), .fz (.int cnt), .fz (s lets), .ow (ls found), .fz (.int k), a5, a6, a7, a8, a9] =
      some (.nx [.fz (is xs), .fz (.int cnt), .fz (s lets), .ow (ls found), .fz (.int k), .fz (.int one), .fz (.int size), .fz (.int mix), .fz (s w0), a9]) := by
    simp [g1, g2, g3, c0]
  unfold oBody
  rw [sSeq_assoc]
  simp only [sSeq_e] at hs ⊢
  rw [hs]
  simp only [hif, sFor_e, hr, sE_ok, h1]
  have hlen : (found.map s).length < 16777216 := by simp; omega
  simp [ls, hlen]
  omega
end DL

namespace DL
open PySem PySem.Spec L2
open PyProof.Rows hiding St

theorem c_names (xs : List Int) (cnt : Nat) (hx : Nums xs) (hl : 3 * cnt ≤ xs.length) (hc : cnt ≤ 25) : ∃ ws, C__law_names [is xs, .int cnt] = ok (ls ws) ∧ ws.length = cnt ∧ (∀ w ∈ ws, Nm w) ∧ ws.Nodup := by
  obtain ⟨e', h1, found, a4, a5, a6, a7, a8, a9, rfl, h2, h3, h4⟩ := forS_range (tg := gN 4) (body := oBody)
    (fun j e => ∃ found a4 a5 a6 a7 a8 a9, e = [.fz (is xs), .fz (.int cnt), .fz (s lets), .ow (ls found), a4, a5, a6, a7, a8, a9] ∧ found.length = j ∧ (∀ w ∈ found, Nm w) ∧ found.Nodup) cnt
    (fun j hj e ⟨found, a4, a5, a6, a7, a8, a9, he, h1, h2, h3⟩ => by
      subst he
      obtain ⟨name, b5, b6, b7, b8, b9, h4, h5, h6⟩ := n_outer xs cnt hx hl hc found j hj h1 h2 h3 a5 a6 a7 a8 a9
      refine ⟨_, rfl, _, .inl h4, found ++ [name], _, b5, b6, b7, b8, b9, rfl, by simp [h1], fun w hw => ?_, ?_⟩
      · rcases List.mem_append.mp hw with hw | hw
        · exact h2 w hw
        · rw [List.mem_singleton] at hw; subst hw; exact h5
      · rw [List.nodup_append]
        refine ⟨h3, by simp, fun a ha b hb => ?_⟩
        rw [List.mem_singleton] at hb; subst hb
        intro z; subst z; exact h6 ha)
    [.fz (is xs), .fz (.int cnt), .fz (s lets), .ow (ls []), .un, .un, .un, .un, .un, .un] ⟨[], _, _, _, _, _, _, rfl, rfl, by simp, by simp⟩
  refine ⟨found, ?_, h2, h3, h4⟩
  have hr : iR1 (eV 1) [.fz (is xs), .fz (.int cnt), .fz (s lets), .ow (ls []), .un, .un, .un, .un, .un, .un] = ok ((List.range cnt).map fun k : Nat => .int k) := iR1_n rfl (by omega)
  unfold C__law_names
  show toRF (B__law_names [.fz (is xs), .fz (.int cnt), .un, .un, .un, .un, .un, .un, .un, .un]) = _
  unfold oBody iBody at h1
  unfold B__law_names
  simp only [sSeq_e, sSet_e, sSetO_e, eLst_e, eC_e, litL, aN_e, bR_ok, List.length_nil, Nat.zero_le, if_true, sE_ok, List.set_cons_succ, List.set_cons_zero, sFor_e]
  unfold ls at hr h1
  simp only [List.map_nil] at hr h1
  rw [hr]
  simp only [sE_ok, h1]
  rfl

/-! ### rows -/
/-- a verdict on one of the issues -/
def Vl (issues : List Wd) (w : Wd) : Prop := w ∈ issues ∨ ∃ i ∈ issues, w = 33 :: i
theorem nm_iss {w : Wd} (h : Nm w) : iss w = w ∧ isY w = true := by
  have : w.head? ≠ some 33 := by
    intro z
    cases w with
    | nil => cases z
    | cons c w =>
      simp at z
      have := h.2.2 c (by simp)
      omega
  exact ⟨by simp [iss, this], by simp [isY, this]⟩
theorem vl_vd {issues : List Wd} (hI : ∀ i ∈ issues, Nm i) {w : Wd} (h : Vl issues w) : Vd w ∧ w.length ≤ 13 ∧ iss w ∈ issues := by
  rcases h with h | ⟨i, hi, rfl⟩
  · have := hI w h
    exact ⟨⟨this.1, by have := this.2.1; omega⟩, by have := this.2.1; omega, by rw [(nm_iss this).1]; exact h⟩
  · have := hI i hi
    exact ⟨⟨by simp, by have := this.2.1; simp; omega⟩, by have := this.2.1; simp; omega, by simp [iss, hi]⟩
theorem lst_app (a b : List D) : True := trivial
theorem gAdd_ls (a b : List Wd) (h : a.length + b.length ≤ 16777216) : gAdd (ls a) (ls b) = ok (ls (a ++ b)) := by
  unfold ls
  rw [gAdd_lst _ _ (by simpa using h), List.map_append]
theorem gAdd_bang (w : Wd) (h : w.length ≤ 1000) : gAdd (.str "!") (s w) = ok (s (33 :: w)) := by
  rw [lit1]
  exact gAdd_s [33] w (by simp; omega)
def rBody : FS := (sSet 3 (e2 gAdd (bV 3) (eLst (aC (e2 gAdd (bV 4) (eLst (aC (eV 2) (aN)))) (aC (e2 gAdd (bV 4) (eLst (aC (e2 gAdd (eC (.str "!")) (bV 2)) (aN)))) (aN))))))
def RowOk (issues : List Wd) (n : Nat) (r : List Wd) : Prop := r.length = n ∧ ∀ w ∈ r, Vl issues w
theorem r_inner (issues : List Wd) (hI : ∀ i ∈ issues, Nm i) (i : Wd) (hi : i ∈ issues) (rows : List (List Wd)) (n : Nat) (hn : n ≤ 100) (hr : ∀ r ∈ rows, RowOk issues n r) (hl : rows.length ≤ 1000) (d0 d1 : D) (a4 : Sl) :
    ∃ rows' b4, forS (gN 4) rBody (rows.map ls) [.fz d0, .fz d1, .fz (s i), .fz (lls []), a4] = some (.nx [.fz d0, .fz d1, .fz (s i), .fz (lls rows'), b4]) ∧ (∀ r ∈ rows', RowOk issues (n + 1) r) ∧ rows'.length = 2 * rows.length := by
  obtain ⟨e', h1, acc, b4, rfl, h2, h3⟩ := forS_all (tg := gN 4) (body := rBody) ls (fun r e => ∃ acc b4, e = [.fz d0, .fz d1, .fz (s i), .fz (lls acc), b4] ∧ (∀ r ∈ acc, RowOk issues (n + 1) r) ∧ acc.length + 2 * r.length = 2 * rows.length) rows
    (fun r rest e hrm ⟨acc, b4, he, h1, h2⟩ => by
      subst he
      have hro := hr r hrm
      have hin := hI i hi
      have g1 : gAdd (ls r) (.lst [s i]) = ok (ls (r ++ [i])) := gAdd_ls r [i] (by rw [hro.1]; simp; omega)
      have g2 : gAdd (ls r) (.lst [s (33 :: i)]) = ok (ls (r ++ [33 :: i])) := gAdd_ls r [33 :: i] (by rw [hro.1]; simp; omega)
      have g3 : gAdd (lls acc) (.lst [ls (r ++ [i]), ls (r ++ [33 :: i])]) = ok (lls (acc ++ [r ++ [i], r ++ [33 :: i]])) := by
        unfold lls
        rw [gAdd_lst _ _ (by simp at h2 ⊢; omega)]; simp
      have g4 := gAdd_bang i (by have := hin.2.1; omega)
      refine ⟨_, rfl, [.fz d0, .fz d1, .fz (s i), .fz (lls (acc ++ [r ++ [i], r ++ [33 :: i]])), .fz (ls r)], .inl ?_, _, _, rfl, fun r' hr' => ?_, by simp at h2 ⊢; omega⟩
      · simp [rBody, g1, g2, g3, g4]
      · rcases List.mem_append.mp hr' with h | h
        · exact h1 r' h
        · simp only [List.mem_cons, List.not_mem_nil, or_false] at h
          rcases h with rfl | rfl
          · refine ⟨by simp [hro.1], fun w hw => ?_⟩
            rcases List.mem_append.mp hw with hw | hw
            · exact hro.2 w hw
            · rw [List.mem_singleton] at hw; subst hw; exact .inl hi
          · refine ⟨by simp [hro.1], fun w hw => ?_⟩
            rcases List.mem_append.mp hw with hw | hw
            · exact hro.2 w hw
            · rw [List.mem_singleton] at hw; subst hw; exact .inr ⟨i, hi, rfl⟩)
    [.fz d0, .fz d1, .fz (s i), .fz (lls []), a4] ⟨[], _, rfl, by simp, by simp⟩
  exact ⟨acc, b4, h1, h2, by simpa using h3⟩
theorem c_rows (issues : List Wd) (hI : ∀ i ∈ issues, Nm i) (hl : issues.length ≤ 6) : ∃ rows, C__law_rows [ls issues] = ok (lls rows) ∧ (∀ r ∈ rows, RowOk issues issues.length r) ∧ rows.length = 2 ^ issues.length := by
  obtain ⟨e', h1, rows, a2, a3, a4, rfl, h2, h3⟩ := forS_all (tg := gN 2) (body := sSeq (sSet 3 (eLst (aN))) (sSeq (sFor (iA (eV 1)) (gN 4) rBody) (sSet 1 (eV 3)))) s
    (fun r e => ∃ rows a2 a3 a4, e = [.fz (ls issues), .fz (lls rows), a2, a3, a4] ∧ (∀ x ∈ rows, RowOk issues (issues.length - r.length) x) ∧ rows.length * 2 ^ r.length = 2 ^ issues.length ∧ r.length ≤ issues.length) issues
    (fun i r e hi ⟨rows, a2, a3, a4, he, h1, h2, h3⟩ => by
      subst he
      have hb : rows.length ≤ 1000 := by
        have p1 : 0 < 2 ^ (i :: r).length := Nat.two_pow_pos _
        have p2 : 2 ^ issues.length ≤ 2 ^ 6 := Nat.pow_le_pow_right (by omega) hl
        have p3 : rows.length * 1 ≤ rows.length * 2 ^ (i :: r).length := Nat.mul_le_mul_left _ p1
        omega
      obtain ⟨rows', b4, h4, h5, h6⟩ := r_inner issues hI i hi rows _ (by omega) h1 hb (ls issues) (lls rows) a4
      refine ⟨_, rfl, [.fz (ls issues), .fz (lls rows'), .fz (s i), .fz (lls rows'), b4], .inl ?_, rows', _, _, _, rfl, fun x hx => ?_, ?_, by simp at h3; omega⟩
      · unfold lls at h4 ⊢
        simp only [List.map_nil] at h4
        simp [h4]
      · have := h5 x hx
        simp only [List.length_cons] at this h3
        rw [show issues.length - (r.length + 1) + 1 = issues.length - r.length by omega] at this
        exact this
      · rw [h6, ← h2, List.length_cons, Nat.pow_succ]
        rw [Nat.mul_comm 2, Nat.mul_assoc, Nat.mul_comm 2])
    [.fz (ls issues), .fz (lls [[]]), .un, .un, .un] ⟨[[]], _, _, _, rfl, by simp [RowOk], by simp, Nat.le_refl _⟩
  refine ⟨rows, ?_, by simpa using h2, by simpa using h3.1⟩
  unfold rBody at h1
  unfold lls ls at h1 ⊢
  simp only [List.map_nil, List.map_cons] at h1
  simp [C__law_rows, B__law_rows, startE, h1]
end DL

namespace DL
open PySem PySem.Spec L2
open PyProof.Rows hiding St

theorem sSeq_nx {f g : FS} {e e' : En} (h : f e = some (.nx e')) : sSeq f g e = g e' := by
  unfold sSeq; rw [h]
/-- opinions: some of the rows -/
def Ops (rows ops : List (List Wd)) : Prop := (∀ o ∈ ops, o ∈ rows) ∧ ops.length ≤ rows.length
def aF1 : FS := sSet 8 (eComp [10] (iR1 (e1 gLen (bV 5))) (gN 10) (tV (e2 gEq (e2 gMod (e2 gIx (bV 6) (bV 10)) (e2 gIx (eLst (aC (eC (.int 2)) (aC (eC (.int 5)) (aC (eC (.int 7)) (aC (eC (.int 2)) (aC (eC (.int 1)) (aC (eC (.int 9)) (aN)))))))) (bV 7))) (eC (.int 0)))) (e2 gIx (bV 5) (bV 10)))
def aF2 : FS := sIf (tV (e2 gEq (bV 7) (eC (.int 2)))) (sSet 8 (eComp [10] (iR1 (e1 gLen (bV 5))) (gN 10) (tV (e2 gGt (e2 gMod (e2 gIx (bV 6) (bV 10)) (eC (.int 7))) (eC (.int 0)))) (e2 gIx (bV 5) (bV 10)))) (sNext)
def bBody : FS := (sSeq (sSet 11 (e2 gAdd (eC (.int 1)) (e2 gMod (e2 gIx (bV 3) (e2 gAdd (eC (.int 3)) (bV 10))) (eC (.int 3))))) (sApp 9 (eComp [12] (iR1 (eV 11)) (gN 12) (tTrue) (e2 gIx (eLst (aC (e2 gIx (bV 4) (e2 gMod (e2 gAdd (e2 gIx (bV 6) (e2 gAdd (e2 gMul (eC (.int 5)) (bV 10)) (bV 12))) (bV 12)) (e1 gLen (bV 4)))) (aC (e2 gAdd (eC (.str "!")) (e2 gIx (bV 4) (e2 gMod (e2 gAdd (e2 gIx (bV 6) (e2 gAdd (e2 gMul (eC (.int 5)) (bV 10)) (bV 12))) (bV 12)) (e1 gLen (bV 4))))) (aN)))) (e2 gMod (e2 gIx (bV 6) (e2 gAdd (e2 gAdd (eC (.int 20)) (e2 gMul (eC (.int 5)) (bV 10))) (bV 12))) (eC (.int 2)))))))
def aF3 : FS := sIf (tV (e2 gEq (bV 7) (eC (.int 3)))) (sSeq (sSetO 9 (eLst (aN))) (sSeq (sFor (iR1 (e2 gAdd (eC (.int 1)) (e2 gMod (e2 gIx (bV 3) (eC (.int 2))) (eC (.int 4))))) (gN 10) bBody) (sSet 8 (eComp [13] (iA (bV 5)) (gN 13) (tV (e2 gEq (eComp [14] (iA (bV 9)) (gN 14) (tU (eCall C__law_has (aC (eV 13) (aC (eV 14) (aN))))) (eV 14)) (eLst (aN)))) (eV 13))))) (sNext)
def aF4 : FS := sIf (tV (e2 gEq (bV 8) (eLst (aN)))) (sSet 8 (eLst (aC (e2 gIx (bV 5) (e2 gMod (e2 gIx (bV 6) (eC (.int 0))) (e1 gLen (bV 5)))) (aN)))) (sNext)
/-- a comprehension that picks rows by their places -/
theorem pick_rows (rows : List (List Wd)) (it : FI) (cond : En → R Bool) (e : En) (p : Nat → Bool) (hl : rows.length ≤ 64) (he : it e = ok ((List.range rows.length).map fun k : Nat => .int k)) (h5 : ∀ k : Nat, k < rows.length → ((e.set 10 .un).set 10 (.fz (.int k)))[5]? = some (.fz (lls rows)) ∧ ((e.set 10 .un).set 10 (.fz (.int k)))[10]? = some (.fz (.int k)) ∧ cond ((e.set 10 .un).set 10 (.fz (.int k))) = ok (p k)) :
    ∃ ops, eComp [10] it (gN 10) cond (e2 gIx (bV 5) (bV 10)) e = ok (lls ops) ∧ Ops rows ops := by
  have h := eComp_map (own := [10]) (it := it) (tg := gN 10) (cond := cond) (elt := e2 gIx (bV 5) (bV 10)) (e := e) (fun k : Nat => .int k) p (fun k => ls (rows.getD k [])) (List.range rows.length) he fun k hk => by
    have hk := List.mem_range.mp hk
    obtain ⟨a, b, c⟩ := h5 k hk
    refine ⟨_, rfl, c, fun _ => ?_⟩
    have g := gIx_map ls rows [] k hk
    simp only [e2_e, bV_e, wipe_1, wipe_0, a, b, bR_ok]
    exact g
  refine ⟨((List.range rows.length).filter p).map fun k => rows.getD k [], ?_, fun o ho => ?_, ?_⟩
  · rw [h]; unfold lls; rw [List.map_map]; rfl
  · obtain ⟨k, hk, rfl⟩ := List.mem_map.mp ho
    exact getD_mem rows k [] (List.mem_range.mp (List.mem_filter.mp hk).1)
  · rw [List.length_map]
    have := List.length_filter_le p (List.range rows.length)
    simpa using this
theorem a_F1 (rows : List (List Wd)) (m : List Int) (hm : m.length = 64) (hl : rows.length ≤ 64) (kind : Nat) (hk : kind < 6) (d0 d1 d2 d3 d4 : D) (a8 a9 a10 a11 a12 a13 a14 : Sl) :
    ∃ ops, aF1 [.fz d0, .fz d1, .fz d2, .fz d3, .fz d4, .fz (lls rows), .fz (is m), .fz (.int kind), a8, a9, a10, a11, a12, a13, a14] = some (.nx [.fz d0, .fz d1, .fz d2, .fz d3, .fz d4, .fz (lls rows), .fz (is m), .fz (.int kind), .fz (lls ops), a9, a10, a11, a12, a13, a14]) ∧ Ops rows ops := by
  have hdv : ∃ dv : Int, 0 < dv ∧ gIx (.lst [.int 2, .int 5, .int 7, .int 2, .int 1, .int 9]) (.int kind) = ok (.int dv) := by
    have : kind = 0 ∨ kind = 1 ∨ kind = 2 ∨ kind = 3 ∨ kind = 4 ∨ kind = 5 := by omega
    rcases this with rfl | rfl | rfl | rfl | rfl | rfl
    · exact ⟨2, by omega, rfl⟩
    · exact ⟨5, by omega, rfl⟩
    · exact ⟨7, by omega, rfl⟩
    · exact ⟨2, by omega, rfl⟩
    · exact ⟨1, by omega, rfl⟩
    · exact ⟨9, by omega, rfl⟩
  obtain ⟨dv, hdv, g1⟩ := hdv
  obtain ⟨ops, h1, h2⟩ := pick_rows rows (iR1 (e1 gLen (bV 5))) (tV (e2 gEq (e2 gMod (e2 gIx (bV 6) (bV 10)) (e2 gIx (eLst (aC (eC (.int 2)) (aC (eC (.int 5)) (aC (eC (.int 7)) (aC (eC (.int 2)) (aC (eC (.int 1)) (aC (eC (.int 9)) (aN)))))))) (bV 7))) (eC (.int 0))))
    [.fz d0, .fz d1, .fz d2, .fz d3, .fz d4, .fz (lls rows), .fz (is m), .fz (.int kind), a8, a9, a10, a11, a12, a13, a14] (fun k => decide (m.getD k 0 % dv = 0)) hl (iR1_n (by simp [lls]) (by omega)) fun k hk => by
      refine ⟨rfl, rfl, ?_⟩
      have g2 : gIx (is m) (.int k) = ok (.int (m.getD k 0)) := gIx_map D.int m 0 k (by omega)
      simp [g2, g1, hdv, -List.getD_eq_getElem?_getD]
  exact ⟨ops, by simp [aF1, h1], h2⟩
theorem a_F2 (rows ops : List (List Wd)) (m : List Int) (hm : m.length = 64) (hl : rows.length ≤ 64) (kind : Nat) (d0 d1 d2 d3 d4 : D) (ho : Ops rows ops) (a9 a10 a11 a12 a13 a14 : Sl) :
    ∃ ops', aF2 [.fz d0, .fz d1, .fz d2, .fz d3, .fz d4, .fz (lls rows), .fz (is m), .fz (.int kind), .fz (lls ops), a9, a10, a11, a12, a13, a14] = some (.nx [.fz d0, .fz d1, .fz d2, .fz d3, .fz d4, .fz (lls rows), .fz (is m), .fz (.int kind), .fz (lls ops'), a9, a10, a11, a12, a13, a14]) ∧ Ops rows ops' := by
  by_cases q : kind = 2
  · obtain ⟨ops', h1, h2⟩ := pick_rows rows (iR1 (e1 gLen (bV 5))) (tV (e2 gGt (e2 gMod (e2 gIx (bV 6) (bV 10)) (eC (.int 7))) (eC (.int 0))))
      [.fz d0, .fz d1, .fz d2, .fz d3, .fz d4, .fz (lls rows), .fz (is m), .fz (.int kind), .fz (lls ops), a9, a10, a11, a12, a13, a14] (fun k => decide (0 < m.getD k 0 % 7)) hl (iR1_n (by simp [lls]) (by omega)) fun k hk => by
        refine ⟨rfl, rfl, ?_⟩
        have g2 : gIx (is m) (.int k) = ok (.int (m.getD k 0)) := gIx_map D.int m 0 k (by omega)
        simp [g2, -List.getD_eq_getElem?_getD]
    refine ⟨ops', ?_, h2⟩
    have q2 : (kind : Int) = 2 := by omega
    rw [q2] at h1 ⊢
    simp [aF2, h1]
  · have q2 : ¬ (kind : Int) = 2 := by omega
    exact ⟨ops, by simp [aF2, q2], ho⟩
theorem gLen_ls (ws : List Wd) : gLen (ls ws) = ok (.int ws.length) := by unfold ls; rw [gLen_lst, List.length_map]
theorem gIx_lsm (ws : List Wd) (i : Int) (h : 0 < ws.length) : ∃ w ∈ ws, gIx (ls ws) (.int (i % (ws.length : Int))) = ok (s w) := by
  have h1 : 0 ≤ i % (ws.length : Int) := Int.emod_nonneg _ (by omega)
  have h2 : i % (ws.length : Int) < ws.length := Int.emod_lt_of_pos _ (by omega)
  obtain ⟨k, hk⟩ := Int.eq_ofNat_of_zero_le h1
  have hk2 : k < ws.length := by omega
  refine ⟨ws.getD k [], getD_mem ws k [] hk2, ?_⟩
  rw [hk]
  exact gIx_map s ws [] k hk2
theorem b_step (n m : List Int) (hn : n.length = 20) (hm : m.length = 64) (issues : List Wd) (hI : ∀ i ∈ issues, Nm i) (hi : 0 < issues.length) (bars : List (List Wd)) (k : Nat) (hk : k < 4) (hb : bars.length = k) (d0 d1 d2 d5 d7 d8 : D) (a11 a12 a13 a14 : Sl) :
    ∃ bar b11, bBody [.fz d0, .fz d1, .fz d2, .fz (is n), .fz (ls issues), .fz d5, .fz (is m), .fz d7, .fz d8, .ow (lls bars), .fz (.int k), a11, a12, a13, a14] = some (.nx [.fz d0, .fz d1, .fz d2, .fz (is n), .fz (ls issues), .fz d5, .fz (is m), .fz d7, .fz d8, .ow (lls (bars ++ [bar])), .fz (.int k), b11, a12, a13, a14]) := by
  have g1 := gIx_is n (3 + k) (3 + k) (by omega) (by omega)
  generalize n[3 + k]'(by omega) = z at *
  obtain ⟨sz, hsz, hsz2⟩ : ∃ sz : Nat, 1 + z % 3 = (sz : Int) ∧ sz ≤ 3 := ⟨(1 + z % 3).toNat, by omega, by omega⟩
  -- each verdict
  have hv : ∀ j : Nat, j < sz → ∃ w, ∀ e : En, e[4]? = some (.fz (ls issues)) → e[6]? = some (.fz (is m)) → e[10]? = some (.fz (.int k)) → e[12]? = some (.fz (.int j)) →
      (e2 gIx (eLst (aC (e2 gIx (bV 4) (e2 gMod (e2 gAdd (e2 gIx (bV 6) (e2 gAdd (e2 gMul (eC (.int 5)) (bV 10)) (bV 12))) (bV 12)) (e1 gLen (bV 4)))) (aC (e2 gAdd (eC (.str "!")) (e2 gIx (bV 4) (e2 gMod (e2 gAdd (e2 gIx (bV 6) (e2 gAdd (e2 gMul (eC (.int 5)) (bV 10)) (bV 12))) (bV 12)) (e1 gLen (bV 4))))) (aN)))) (e2 gMod (e2 gIx (bV 6) (e2 gAdd (e2 gAdd (eC (.int 20)) (e2 gMul (eC (.int 5)) (bV 10))) (bV 12))) (eC (.int 2)))) e = ok (s w) := by
    intro j hj
    have g2 := gIx_is m (5 * k + j) (5 * k + j) (by omega) (by omega)
    have g3 := gIx_is m (20 + 5 * k + j) (20 + 5 * k + j) (by omega) (by omega)
    generalize m[5 * k + j]'(by omega) = x at *
    generalize m[20 + 5 * k + j]'(by omega) = y at *
    obtain ⟨w, hw, g4⟩ := gIx_lsm issues (x + j) hi
    have hw := hI w hw
    have g5 := gAdd_bang w (by have := hw.2.1; omega)
    have g0 : gMod (.int (x + j)) (.int issues.length) = ok (.int ((x + j) % (issues.length : Int))) := gMod_i _ _ (by omega)
    have hy : y % 2 = 0 ∨ y % 2 = 1 := by omega
    rcases hy with hy | hy
    · refine ⟨w, fun e e4 e6 e10 e12 => ?_⟩
      have g6 : gIx (.lst [s w, s (33 :: w)]) (.int 0) = ok (s w) := rfl
      simp [e4, e6, e10, e12, g2, g3, gLen_ls, g0, g4, g5, hy, g6]
    · refine ⟨33 :: w, fun e e4 e6 e10 e12 => ?_⟩
      have g6 : gIx (.lst [s w, s (33 :: w)]) (.int 1) = ok (s (33 :: w)) := rfl
      simp [e4, e6, e10, e12, g2, g3, gLen_ls, g0, g4, g5, hy, g6]
  have hv2 : ∃ f : Nat → Wd, ∀ j : Nat, j < sz → ∀ e : En, e[4]? = some (.fz (ls issues)) → e[6]? = some (.fz (is m)) → e[10]? = some (.fz (.int k)) → e[12]? = some (.fz (.int j)) →
      (e2 gIx (eLst (aC (e2 gIx (bV 4) (e2 gMod (e2 gAdd (e2 gIx (bV 6) (e2 gAdd (e2 gMul (eC (.int 5)) (bV 10)) (bV 12))) (bV 12)) (e1 gLen (bV 4)))) (aC (e2 gAdd (eC (.str "!")) (e2 gIx (bV 4) (e2 gMod (e2 gAdd (e2 gIx (bV 6) (e2 gAdd (e2 gMul (eC (.int 5)) (bV 10)) (bV 12))) (bV 12)) (e1 gLen (bV 4))))) (aN)))) (e2 gMod (e2 gIx (bV 6) (e2 gAdd (e2 gAdd (eC (.int 20)) (e2 gMul (eC (.int 5)) (bV 10))) (bV 12))) (eC (.int 2)))) e = ok (s (f j)) := by
    refine ⟨fun j => if h : j < sz then (hv j h).choose else [], fun j hj => ?_⟩
    dsimp only
    rw [dif_pos hj]
    exact (hv j hj).choose_spec
  obtain ⟨f, hf⟩ := hv2
  have h1 := eComp_all (own := [12]) (it := iR1 (eV 11)) (tg := gN 12) (elt := (e2 gIx (eLst (aC (e2 gIx (bV 4) (e2 gMod (e2 gAdd (e2 gIx (bV 6) (e2 gAdd (e2 gMul (eC (.int 5)) (bV 10)) (bV 12))) (bV 12)) (e1 gLen (bV 4)))) (aC (e2 gAdd (eC (.str "!")) (e2 gIx (bV 4) (e2 gMod (e2 gAdd (e2 gIx (bV 6) (e2 gAdd (e2 gMul (eC (.int 5)) (bV 10)) (bV 12))) (bV 12)) (e1 gLen (bV 4))))) (aN)))) (e2 gMod (e2 gIx (bV 6) (e2 gAdd (e2 gAdd (eC (.int 20)) (e2 gMul (eC (.int 5)) (bV 10))) (bV 12))) (eC (.int 2)))))
    (e := [.fz d0, .fz d1, .fz d2, .fz (is n), .fz (ls issues), .fz d5, .fz (is m), .fz d7, .fz d8, .ow (lls bars), .fz (.int k), .fz (.int sz), a12, a13, a14]) (fun j : Nat => .int j) (fun j => s (f j)) (List.range sz) (iR1_n rfl (by omega)) fun j hj =>
      ⟨_, rfl, hf j (List.mem_range.mp hj) _ rfl rfl rfl rfl⟩
  refine ⟨(List.range sz).map f, .fz (.int sz), ?_⟩
  have hlen : (bars.map ls).length < 16777216 := by simp; omega
  unfold bBody
  rw [sSeq_nx (e' := [.fz d0, .fz d1, .fz d2, .fz (is n), .fz (ls issues), .fz d5, .fz (is m), .fz d7, .fz d8, .ow (lls bars), .fz (.int k), .fz (.int sz), a12, a13, a14]) (by simp [g1, hsz])]
  rw [sApp_ow]
  simp only [List.getElem?_cons_succ, List.getElem?_cons_zero, lls]
  unfold lls at h1
  rw [h1]
  simp only [sE_ok, hlen, if_true, List.set_cons_succ, List.set_cons_zero]
  simp [ls]
theorem a_F3 (rows ops : List (List Wd)) (n m : List Int) (hn : n.length = 20) (hm : m.length = 64) (hl : rows.length ≤ 64) (kind : Nat) (issues : List Wd) (hI : ∀ i ∈ issues, Nm i) (hi : 0 < issues.length) (d0 d1 d2 : D) (ho : Ops rows ops) (a9 a10 a11 a12 a13 a14 : Sl) :
    ∃ ops' b9 b10 b11 b12 b13 b14, aF3 [.fz d0, .fz d1, .fz d2, .fz (is n), .fz (ls issues), .fz (lls rows), .fz (is m), .fz (.int kind), .fz (lls ops), a9, a10, a11, a12, a13, a14] = some (.nx [.fz d0, .fz d1, .fz d2, .fz (is n), .fz (ls issues), .fz (lls rows), .fz (is m), .fz (.int kind), .fz (lls ops'), b9, b10, b11, b12, b13, b14]) ∧ Ops rows ops' := by
  by_cases q : kind = 3
  · have g1 := gIx_is n 2 2 rfl (by omega)
    generalize n[2]'(by omega) = z at *
    obtain ⟨c, hc, hc2⟩ : ∃ c : Nat, 1 + z % 4 = (c : Int) ∧ c ≤ 4 := ⟨(1 + z % 4).toNat, by omega, by omega⟩
    obtain ⟨e', h1, bars, b10, b11, rfl, h2⟩ := forS_range (tg := gN 10) (body := bBody)
      (fun j e => ∃ bars b10 b11, e = [.fz d0, .fz d1, .fz d2, .fz (is n), .fz (ls issues), .fz (lls rows), .fz (is m), .fz (.int kind), .fz (lls ops), .ow (lls bars), b10, b11, a12, a13, a14] ∧ bars.length = j) c
      (fun j hj e ⟨bars, b10, b11, he, h1⟩ => by
        subst he
        obtain ⟨bar, c11, h2⟩ := b_step n m hn hm issues hI hi bars j (by omega) h1 d0 d1 d2 (lls rows) (.int kind) (lls ops) b11 a12 a13 a14
        exact ⟨_, rfl, _, .inl h2, bars ++ [bar], _, _, rfl, by simp [h1]⟩)
      [.fz d0, .fz d1, .fz d2, .fz (is n), .fz (ls issues), .fz (lls rows), .fz (is m), .fz (.int kind), .fz (lls ops), .ow (lls []), a10, a11, a12, a13, a14] ⟨[], _, _, rfl, rfl⟩
    have hin : ∀ row : List Wd, ∃ b : Bool, ∀ b14 : Sl, (tV (e2 gEq (eComp [14] (iA (bV 9)) (gN 14) (tU (eCall C__law_has (aC (eV 13) (aC (eV 14) (aN))))) (eV 14)) (eLst (aN)))) [.fz d0, .fz d1, .fz d2, .fz (is n), .fz (ls issues), .fz (lls rows), .fz (is m), .fz (.int kind), .fz (lls ops), .ow (lls bars), b10, b11, a12, .fz (ls row), b14] = ok b := by
      intro row
      refine ⟨(bars.filter (hasB row)).isEmpty, fun b14 => ?_⟩
      have c1 := eComp_map (own := [14]) (it := iA (bV 9)) (tg := gN 14) (cond := tU (eCall C__law_has (aC (eV 13) (aC (eV 14) (aN))))) (elt := eV 14) (e := [.fz d0, .fz d1, .fz d2, .fz (is n), .fz (ls issues), .fz (lls rows), .fz (is m), .fz (.int kind), .fz (lls ops), .ow (lls bars), b10, b11, a12, .fz (ls row), b14])
        ls (hasB row) ls bars (by simp [lls]) fun bar hb => ⟨_, rfl, by simp [c_has], fun _ => by simp⟩
      have c2 := gEq_lst0 ((bars.filter (hasB row)).map ls) (by rw [List.all_map]; simp)
      rw [List.isEmpty_map] at c2
      simp only [tV_e, e2_e, c1, bR_ok, eLst_e, aN_e, List.length_nil, Nat.zero_le, if_true, c2, asB_bl]
    have hin2 : ∃ p : List Wd → Bool, ∀ row b14, (tV (e2 gEq (eComp [14] (iA (bV 9)) (gN 14) (tU (eCall C__law_has (aC (eV 13) (aC (eV 14) (aN))))) (eV 14)) (eLst (aN)))) [.fz d0, .fz d1, .fz d2, .fz (is n), .fz (ls issues), .fz (lls rows), .fz (is m), .fz (.int kind), .fz (lls ops), .ow (lls bars), b10, b11, a12, .fz (ls row), b14] = ok (p row) := ⟨fun row => (hin row).choose, fun row => (hin row).choose_spec⟩
    obtain ⟨p, hp⟩ := hin2
    have c3 := eComp_map (own := [13]) (it := iA (bV 5)) (tg := gN 13) (cond := tV (e2 gEq (eComp [14] (iA (bV 9)) (gN 14) (tU (eCall C__law_has (aC (eV 13) (aC (eV 14) (aN))))) (eV 14)) (eLst (aN)))) (elt := eV 13) (e := [.fz d0, .fz d1, .fz d2, .fz (is n), .fz (ls issues), .fz (lls rows), .fz (is m), .fz (.int kind), .fz (lls ops), .ow (lls bars), b10, b11, a12, a13, a14])
      ls p ls rows (by simp [lls]) fun row _ => ⟨_, rfl, hp row a14, fun _ => by simp⟩
    refine ⟨rows.filter p, .ow (lls bars), b10, b11, a12, a13, a14, ?_, fun o ho => (List.mem_filter.mp ho).1, List.length_filter_le p rows⟩
    have hr : iR1 (e2 gAdd (eC (.int 1)) (e2 gMod (e2 gIx (bV 3) (eC (.int 2))) (eC (.int 4)))) [.fz d0, .fz d1, .fz d2, .fz (is n), .fz (ls issues), .fz (lls rows), .fz (is m), .fz (.int kind), .fz (lls ops), .ow (lls []), a10, a11, a12, a13, a14] = ok ((List.range c).map fun k : Nat => .int k) :=
      iR1_n' (n := 1 + z % 4) (by simp [g1]) hc (by omega)
    have hq : (tV (e2 gEq (bV 7) (eC (.int 3)))) [.fz d0, .fz d1, .fz d2, .fz (is n), .fz (ls issues), .fz (lls rows), .fz (is m), .fz (.int kind), .fz (lls ops), a9, a10, a11, a12, a13, a14] = ok true := by
      have : (kind : Int) = 3 := by omega
      simp [this]
    unfold aF3
    rw [sIf_e, hq]
    simp only [sE_ok, if_true]
    rw [sSeq_nx (e' := [.fz d0, .fz d1, .fz d2, .fz (is n), .fz (ls issues), .fz (lls rows), .fz (is m), .fz (.int kind), .fz (lls ops), .ow (lls []), a10, a11, a12, a13, a14]) (by simp [lls])]
    rw [sSeq_nx (e' := [.fz d0, .fz d1, .fz d2, .fz (is n), .fz (ls issues), .fz (lls rows), .fz (is m), .fz (.int kind), .fz (lls ops), .ow (lls bars), b10, b11, a12, a13, a14]) (by rw [sFor_e, hr]; exact h1)]
    rw [sSet_e, c3]
    rfl
  · have q2 : ¬ (kind : Int) = 3 := by omega
    exact ⟨ops, a9, a10, a11, a12, a13, a14, by simp [aF3, q2], ho⟩
theorem a_F4 (rows ops : List (List Wd)) (m : List Int) (hm : m.length = 64) (hl : rows.length ≤ 64) (h0 : 0 < rows.length) (d0 d1 d2 d3 d4 d7 : D) (ho : Ops rows ops) (a9 a10 a11 a12 a13 a14 : Sl) :
    ∃ ops', aF4 [.fz d0, .fz d1, .fz d2, .fz d3, .fz d4, .fz (lls rows), .fz (is m), .fz d7, .fz (lls ops), a9, a10, a11, a12, a13, a14] = some (.nx [.fz d0, .fz d1, .fz d2, .fz d3, .fz d4, .fz (lls rows), .fz (is m), .fz d7, .fz (lls ops'), a9, a10, a11, a12, a13, a14]) ∧ Ops rows ops' ∧ ops' ≠ [] := by
  have c2 := gEq_lst0 (ops.map ls) (by rw [List.all_map]; simp)
  rw [List.isEmpty_map] at c2
  by_cases q : ops = []
  · have g1 := gIx_is m 0 0 rfl (by omega)
    generalize m[0]'(by omega) = z at *
    have h1 : 0 ≤ z % (rows.length : Int) := Int.emod_nonneg _ (by omega)
    have h2 : z % (rows.length : Int) < rows.length := Int.emod_lt_of_pos _ (by omega)
    obtain ⟨k, hk⟩ := Int.eq_ofNat_of_zero_le h1
    have hk2 : k < rows.length := by omega
    have g2 := gIx_map ls rows [] k hk2
    have g3 : gMod (.int z) (.int rows.length) = ok (.int k) := by rw [gMod_i _ _ (by omega), hk]
    refine ⟨[rows.getD k []], ?_, ⟨fun o ho => ?_, by show 1 ≤ rows.length; omega⟩, by simp⟩
    · subst q
      simp only [List.map_nil, List.isEmpty_nil] at c2
      simp [aF4, lls, c2, g1, g3, g2, -List.getD_eq_getElem?_getD]
    · rw [List.mem_singleton] at ho; subst ho; exact getD_mem rows k [] hk2
  · have : ops.isEmpty = false := by cases ops <;> simp at q ⊢
    rw [this] at c2
    exact ⟨ops, by simp [aF4, lls, c2], ho, q⟩
theorem c_agenda (ns : List Int) (at' most : Nat) (h1 : 1 ≤ most) (h2 : most ≤ 6) : ∃ issues opinions, C__law_agenda [.scr ns, .int at', .int most] = ok (.tup [ls issues, lls opinions]) ∧
    (∀ i ∈ issues, Nm i) ∧ Asc issues ∧ 1 ≤ issues.length ∧ issues.length ≤ most ∧ (∀ o ∈ opinions, RowOk issues issues.length o) ∧ opinions ≠ [] ∧ opinions.length ≤ 64 := by
  obtain ⟨n, n1, n2, n3⟩ := c_numbers ns at' 20 (by omega)
  obtain ⟨p, p1, p2, p3⟩ := c_numbers ns (at' + 1) 18 (by omega)
  obtain ⟨m, m1, m2, m3⟩ := c_numbers ns (at' + 2) 64 (by omega)
  have g1 := gIx_is n 0 0 rfl (by omega)
  have g2 := gIx_is n 1 1 rfl (by omega)
  generalize n[0]'(by omega) = z0 at *
  generalize n[1]'(by omega) = z1 at *
  have hz1 : 0 ≤ z0 % (most : Int) := Int.emod_nonneg _ (by omega)
  have hz2 : z0 % (most : Int) < most := Int.emod_lt_of_pos _ (by omega)
  obtain ⟨c, hc⟩ : ∃ c : Nat, 1 + z0 % (most : Int) = (c : Int) := ⟨(1 + z0 % (most : Int)).toNat, by omega⟩
  obtain ⟨kind, hkind, hk6⟩ : ∃ kind : Nat, z1 % 6 = (kind : Int) ∧ kind < 6 := ⟨(z1 % 6).toNat, by omega, by omega⟩
  obtain ⟨ws, w1, w2, w3, w4⟩ := c_names p c p3 (by omega) (by omega)
  have s1 := gSorted_ls ws (by omega)
  have sm : ∀ i, i ∈ sortW ws ↔ i ∈ ws := sortT_mem s ws
  have sl : (sortW ws).length = c := by rw [← w2]; exact sortT_len s ws
  have sa := sortW_asc ws w4
  have hI : ∀ i ∈ sortW ws, Nm i := fun i hi => w3 i ((sm i).mp hi)
  obtain ⟨rows, r1, r2, r3⟩ := c_rows (sortW ws) hI (by omega)
  have rl : rows.length ≤ 64 := by
    have : 2 ^ (sortW ws).length ≤ 2 ^ 6 := Nat.pow_le_pow_right (by omega) (by omega)
    omega
  have r0 : 0 < rows.length := by rw [r3]; exact Nat.two_pow_pos _
  obtain ⟨o1, f1, q1⟩ := a_F1 rows m m2 rl kind hk6 (.scr ns) (.int at') (.int most) (is n) (ls (sortW ws)) .un .un .un .un .un .un .un
  obtain ⟨o2, f2, q2⟩ := a_F2 rows o1 m m2 rl kind (.scr ns) (.int at') (.int most) (is n) (ls (sortW ws)) q1 .un .un .un .un .un .un
  obtain ⟨o3, b9, b10, b11, b12, b13, b14, f3, q3⟩ := a_F3 rows o2 n m n2 m2 rl kind (sortW ws) hI (by omega) (.scr ns) (.int at') (.int most) q2 .un .un .un .un .un .un
  obtain ⟨o4, f4, q4, q5⟩ := a_F4 rows o3 m m2 rl r0 (.scr ns) (.int at') (.int most) (is n) (ls (sortW ws)) (.int kind) q3 b9 b10 b11 b12 b13 b14
  refine ⟨sortW ws, o4, ?_, hI, sa, by omega, by omega, fun o ho => r2 o (q4.1 o ho), q5, by have := q4.2; omega⟩
  have ea1 : ((at' : Nat) : Int) + 1 = ((at' + 1 : Nat) : Int) := by omega
  have ea2 : ((at' : Nat) : Int) + 2 = ((at' + 2 : Nat) : Int) := by omega
  have gm : gMod (.int z0) (.int most) = ok (.int (z0 % (most : Int))) := gMod_i _ _ (by omega)
  unfold C__law_agenda
  show toR (B__law_agenda [.fz (.scr ns), .fz (.int at'), .fz (.int most), .un, .un, .un, .un, .un, .un, .un, .un, .un, .un, .un, .un]) = _
  unfold aF1 at f1
  unfold aF2 at f2
  unfold aF3 bBody at f3
  unfold aF4 at f4
  replace n1 : C__law_numbers [.scr ns, .int at', .int 20] = ok (is n) := n1
  replace p1 : C__law_numbers [.scr ns, .int ((at' : Int) + 1), .int 18] = ok (is p) := by rw [ea1]; exact p1
  replace m1 : C__law_numbers [.scr ns, .int ((at' : Int) + 2), .int 64] = ok (is m) := by rw [ea2]; exact m1
  replace w1 : C__law_names [is p, .int (1 + z0 % (most : Int))] = ok (ls ws) := by rw [hc]; exact w1
  unfold B__law_agenda
  rw [sSeq_nx (e' := [.fz (.scr ns), .fz (.int at'), .fz (.int most), .fz (is n), .un, .un, .un, .un, .un, .un, .un, .un, .un, .un, .un]) (by simp [n1])]
  rw [sSeq_nx (e' := [.fz (.scr ns), .fz (.int at'), .fz (.int most), .fz (is n), .fz (ls (sortW ws)), .un, .un, .un, .un, .un, .un, .un, .un, .un, .un]) (by simp [p1, g1, gm, w1, s1])]
  rw [sSeq_nx (e' := [.fz (.scr ns), .fz (.int at'), .fz (.int most), .fz (is n), .fz (ls (sortW ws)), .fz (lls rows), .un, .un, .un, .un, .un, .un, .un, .un, .un]) (by simp [r1])]
  rw [sSeq_nx (e' := [.fz (.scr ns), .fz (.int at'), .fz (.int most), .fz (is n), .fz (ls (sortW ws)), .fz (lls rows), .fz (is m), .un, .un, .un, .un, .un, .un, .un, .un]) (by simp [m1])]
  rw [sSeq_nx (e' := [.fz (.scr ns), .fz (.int at'), .fz (.int most), .fz (is n), .fz (ls (sortW ws)), .fz (lls rows), .fz (is m), .fz (.int kind), .un, .un, .un, .un, .un, .un, .un]) (by simp [g2, hkind])]
  rw [sSeq_nx f1, sSeq_nx f2, sSeq_nx f3, sSeq_nx f4]
  simp
end DL

namespace DL
open PySem PySem.Spec L2
open PyProof.Rows hiding St

def ltw (vs : List (List Wd)) : D := .lst (vs.map tw)
theorem gAdd_tw (a b : List Wd) (h : a.length + b.length ≤ 16777216) : gAdd (tw a) (tw b) = ok (tw (a ++ b)) := by
  unfold tw
  show (if _ then _ else _) = _
  rw [if_pos (by simpa using h), List.map_append]
theorem gAdd_ltw (a b : List (List Wd)) (h : a.length + b.length ≤ 16777216) : gAdd (ltw a) (ltw b) = ok (ltw (a ++ b)) := by
  unfold ltw
  rw [gAdd_lst _ _ (by simpa using h), List.map_append]
theorem keysOf_s : ∀ ws : List Wd, (keysOf (ws.map s)).isSome = true
  | [] => rfl
  | w :: ws => by
    have ih := keysOf_s ws
    obtain ⟨k, hk⟩ := Option.isSome_iff_exists.mp ih
    simp [keysOf, hk, s, keyOf]
@[simp] theorem kOk_tw (ws : List Wd) : kOk true (tw ws) = true := by
  unfold kOk tw
  simp [keysOf_s]
theorem dhas_tw (ws : List Wd) (kw : List (List Wd)) : dhas (kw.map tw) (tw ws) = decide (ws ∈ kw) := by
  unfold dhas
  rw [List.any_map, Bool.eq_iff_iff]
  simp [List.any_eq_true]
@[simp] theorem gNotIn_tw (ws : List Wd) (kw : List (List Wd)) (vs : List D) : gNotIn (tw ws) (.dct true (kw.map tw) vs) = ok (.bl (!decide (ws ∈ kw))) := by
  unfold gNotIn
  have : gIn (tw ws) (.dct true (kw.map tw) vs) = ok (.bl (decide (ws ∈ kw))) := by
    show (if _ then _ else _) = _
    rw [if_pos (kOk_tw ws), dhas_tw]
  rw [this]; rfl

/-! ### the parts of an opinion -/
def pBody : FS := (sSet 3 (e2 gAdd (bV 3) (eComp [5] (iA (bV 3)) (gN 5) (tTrue) (e2 gAdd (bV 5) (eTup (aC (eV 4) (aN)))))))
theorem sub_snoc {α : Type} (x : List α) (pre : List α) (w : α) : x.Sublist (pre ++ [w]) ↔ x.Sublist pre ∨ ∃ y, x = y ++ [w] ∧ y.Sublist pre := by
  rw [List.sublist_append_iff]
  constructor
  · rintro ⟨a, b, rfl, h1, h2⟩
    rcases List.sublist_cons_iff.mp h2 with h2 | ⟨r, rfl, h2⟩
    · have : b = [] := by simpa using h2
      subst this
      left; simpa using h1
    · have : r = [] := by simpa using h2
      subst this
      right; exact ⟨a, rfl, h1⟩
  · rintro (h | ⟨y, rfl, h⟩)
    · exact ⟨x, [], by simp, h, by simp⟩
    · exact ⟨y, [w], rfl, h, List.Sublist.refl _⟩
theorem c_parts (op : List Wd) (hl : op.length ≤ 6) (d0 : D) (s1 s4 s5 : Sl) :
    ∃ ps b4 b5, forS (gN 4) pBody (op.map s) [.fz d0, s1, .fz (ls op), .fz (ltw [[]]), s4, s5] = some (.nx [.fz d0, s1, .fz (ls op), .fz (ltw ps), b4, b5]) ∧ (∀ x, x ∈ ps ↔ x.Sublist op) ∧ ps.length ≤ 64 := by
  obtain ⟨e', h1, pre, ps, b4, b5, rfl, h2, h3, h4⟩ := forS_all (tg := gN 4) (body := pBody) s (fun r e => ∃ pre ps b4 b5, e = [.fz d0, s1, .fz (ls op), .fz (ltw ps), b4, b5] ∧ op = pre ++ r ∧ (∀ x, x ∈ ps ↔ x.Sublist pre) ∧ ps.length = 2 ^ pre.length) op
    (fun w r e _ ⟨pre, ps, b4, b5, he, h1, h2, h3⟩ => by
      subst he
      have hp : pre.length ≤ 6 := by rw [h1] at hl; simp at hl; omega
      have hb : ps.length ≤ 64 := by
        have : 2 ^ pre.length ≤ 2 ^ 6 := Nat.pow_le_pow_right (by omega) hp
        omega
      have c1 := eComp_all (own := [5]) (it := iA (bV 3)) (tg := gN 5) (elt := e2 gAdd (bV 5) (eTup (aC (eV 4) (aN)))) (e := [.fz d0, s1, .fz (ls op), .fz (ltw ps), .fz (s w), b5]) tw (fun x => tw (x ++ [w])) ps (by simp [ltw]) fun x hx => ⟨_, rfl, by
        have : x.length ≤ 6 := by have := ((h2 x).mp hx).length_le; omega
        have g := gAdd_tw x [w] (by simp; omega)
        simp only [e2_e, bV_e, eTup_e, aC_e, eV_e, aN_e, wipe_1, wipe_0, List.set_cons_succ, List.set_cons_zero, List.getElem?_cons_succ, List.getElem?_cons_zero, bR_ok, List.length_singleton]
        exact g⟩
      have e1 : (ps.map fun x => tw (x ++ [w])) = (ps.map (· ++ [w])).map tw := by rw [List.map_map]; rfl
      rw [e1] at c1
      have g := gAdd_ltw ps (ps.map (· ++ [w])) (by simp; omega)
      refine ⟨_, rfl, [.fz d0, s1, .fz (ls op), .fz (ltw (ps ++ ps.map (· ++ [w]))), .fz (s w), b5], .inl ?_, pre ++ [w], _, _, _, rfl, by simp [h1], fun x => ?_, ?_⟩
      · unfold pBody
        rw [sSet_e, e2_e]
        simp only [List.set_cons_succ, List.set_cons_zero, bV_e, List.getElem?_cons_succ, List.getElem?_cons_zero, bR_ok, c1]
        unfold ltw at g ⊢
        rw [g]
        rfl
      · rw [List.mem_append, h2, sub_snoc]
        constructor
        · rintro (h | h)
          · exact .inl h
          · obtain ⟨y, hy, rfl⟩ := List.mem_map.mp h
            exact .inr ⟨y, rfl, (h2 y).mp hy⟩
        · rintro (h | ⟨y, rfl, h⟩)
          · exact .inl h
          · exact .inr (List.mem_map.mpr ⟨y, (h2 y).mpr h, rfl⟩)
      · simp [h3, Nat.pow_succ]; omega)
    [.fz d0, s1, .fz (ls op), .fz (ltw [[]]), s4, s5] ⟨[], [[]], _, _, rfl, rfl, fun x => by simp, rfl⟩
  have hp : pre = op := by simpa using h2.symm
  subst hp
  refine ⟨ps, b4, b5, h1, h3, ?_⟩
  have : 2 ^ pre.length ≤ 2 ^ 6 := Nat.pow_le_pow_right (by omega) hl
  omega

/-! ### what hangs together -/
def kBody : FS := (sAsg (gP 1 (eV 5)) (eC (.bl true)))
theorem hang_put (ps : List (List Wd)) : ∀ (kw : List (List Wd)) (vs : List D) (d0 d2 d3 : D) (b4 b5 : Sl), kw.length + ps.length ≤ 16777216 →
    ∃ (kw' : List (List Wd)) (vs' : List D) (c5 : Sl), forS (gN 5) kBody (ps.map tw) [.fz d0, .ow (.dct true (kw.map tw) vs), .fz d2, .fz d3, b4, b5] = some (.nx [.fz d0, .ow (.dct true (kw'.map tw) vs'), .fz d2, .fz d3, b4, c5]) ∧ (∀ x, x ∈ kw' ↔ x ∈ kw ∨ x ∈ ps) ∧ kw'.length ≤ kw.length + ps.length := by
  induction ps with
  | nil => intro kw vs d0 d2 d3 b4 b5 _; exact ⟨kw, vs, b5, rfl, by simp, by simp⟩
  | cons p ps ih =>
    intro kw vs d0 d2 d3 b4 b5 hl
    simp only [List.length_cons] at hl
    have hk : dputK (kw.map tw) (tw p) = (if p ∈ kw then kw else kw ++ [p]).map tw := by
      unfold dputK
      rw [dhas_tw]
      by_cases q : p ∈ kw <;> simp [q]
    have hlen : ((kw.map tw).length : Nat) < 16777216 := by simp; omega
    obtain ⟨kw', vs', c5, h1, h2, h3⟩ := ih (if p ∈ kw then kw else kw ++ [p]) (dputV (kw.map tw) vs (tw p) (.bl true)) d0 d2 d3 b4 (.fz (tw p)) (by split <;> (try simp only [List.length_append, List.length_singleton]) <;> omega)
    refine ⟨kw', vs', c5, ?_, fun x => ?_, ?_⟩
    · rw [List.map_cons]
      unfold forS
      have : kBody [.fz d0, .ow (.dct true (kw.map tw) vs), .fz d2, .fz d3, b4, .fz (tw p)] = some (.nx [.fz d0, .ow (.dct true ((if p ∈ kw then kw else kw ++ [p]).map tw) (dputV (kw.map tw) vs (tw p) (.bl true))), .fz d2, .fz d3, b4, .fz (tw p)]) := by
        rw [← hk]
        unfold kBody sAsg gP
        simp only [eC_e, sE_ok, List.getElem?_cons_succ, List.getElem?_cons_zero, eV_e, kOk_tw, hlen, and_self, if_true]
        rfl
      simp only [gN_e, List.set_cons_succ, List.set_cons_zero, this]
      exact h1
    · rw [h2]
      by_cases q : p ∈ kw
      · simp only [q, if_true, List.mem_cons]
        constructor
        · rintro (h | h)
          · exact .inl h
          · exact .inr (.inr h)
        · rintro (h | rfl | h)
          · exact .inl h
          · exact .inl q
          · exact .inr h
      · simp only [q, if_false, List.mem_append, List.mem_cons, List.not_mem_nil, or_false]
        exact or_assoc
    · refine Nat.le_trans h3 ?_
      split <;> (try simp only [List.length_append, List.length_cons, List.length_nil]) <;> omega
theorem c_hanging (ops : List (List Wd)) (ho : ∀ o ∈ ops, o.length ≤ 6) (hl : ops.length ≤ 64) : ∃ (kw : List (List Wd)) (vs : List D), C__law_hanging [lls ops] = ok (.dct true (kw.map tw) vs) ∧ ∀ x, x ∈ kw ↔ ∃ o ∈ ops, x.Sublist o := by
  obtain ⟨e', h1, pre, kw, vs, b2, b3, b4, b5, rfl, h2, h3, h4⟩ := forS_all (tg := gN 2) (body := (sSeq (sSet 3 (eLst (aC (eTup (aN)) (aN)))) (sSeq (sFor (iA (eV 2)) (gN 4) pBody) (sFor (iA (eV 3)) (gN 5) kBody)))) ls
    (fun r e => ∃ (pre kw : List (List Wd)) (vs : List D) (b2 b3 b4 b5 : Sl), e = [.fz (lls ops), .ow (.dct true (kw.map tw) vs), b2, b3, b4, b5] ∧ ops = pre ++ r ∧ (∀ x, x ∈ kw ↔ ∃ o ∈ pre, x.Sublist o) ∧ kw.length ≤ 64 * pre.length) ops
    (fun op r e hop ⟨pre, kw, vs, b2, b3, b4, b5, he, h1, h2, h3⟩ => by
      subst he
      have hp : pre.length ≤ 64 := by rw [h1] at hl; simp at hl; omega
      obtain ⟨ps, c4, c5, p1, p2, p3⟩ := c_parts op (ho op hop) (lls ops) (.ow (.dct true (kw.map tw) vs)) b4 b5
      obtain ⟨kw', vs', c6, k1, k2, k3⟩ := hang_put ps kw vs (lls ops) (ls op) (ltw ps) c4 c5 (by omega)
      refine ⟨_, rfl, _, .inl ?_, pre ++ [op], kw', vs', .fz (ls op), .fz (ltw ps), c4, c6, rfl, by simp [h1], fun x => ?_, by simp; omega⟩
      · rw [sSeq_nx (e' := [.fz (lls ops), .ow (.dct true (kw.map tw) vs), .fz (ls op), .fz (ltw [[]]), b4, b5]) (by simp [ltw, tw])]
        rw [sSeq_nx (e' := [.fz (lls ops), .ow (.dct true (kw.map tw) vs), .fz (ls op), .fz (ltw ps), c4, c5]) (by rw [sFor_e]; exact p1)]
        rw [sFor_e]
        exact k1
      · rw [k2, h2]
        simp only [List.mem_append, List.mem_singleton]
        constructor
        · rintro (⟨o, a, b⟩ | h)
          · exact ⟨o, .inl a, b⟩
          · exact ⟨op, .inr rfl, (p2 x).mp h⟩
        · rintro ⟨o, a | rfl, b⟩
          · exact .inl ⟨o, a, b⟩
          · exact .inr ((p2 x).mpr b))
    [.fz (lls ops), .ow (.dct true (([] : List (List Wd)).map tw) []), .un, .un, .un, .un] ⟨[], [], [], _, _, _, _, rfl, rfl, by simp, by simp⟩
  have hp : pre = ops := by simpa using h2.symm
  subst hp
  refine ⟨kw, vs, ?_, h3⟩
  unfold pBody kBody at h1
  unfold C__law_hanging
  show toRF (B__law_hanging [.fz (lls pre), .un, .un, .un, .un, .un]) = _
  unfold B__law_hanging
  rw [sSeq_nx (e' := [.fz (lls pre), .ow (.dct true (([] : List (List Wd)).map tw) []), .un, .un, .un, .un]) (by simp [eDct])]
  rw [sSeq_nx (e' := [.fz (lls pre), .ow (.dct true (kw.map tw) vs), b2, b3, b4, b5]) (by rw [sFor_e]; exact h1)]
  rfl
end DL

namespace DL
open PySem PySem.Spec L2
open PyProof.Rows hiding St

/-! ### all views -/
def grow (i : Wd) (v : List Wd) : List (List Wd) := [v ++ [i], v ++ [33 :: i]]
def vBody : FS := (sSeq (sApp 3 (e2 gAdd (bV 4) (eTup (aC (eV 2) (aN))))) (sApp 3 (e2 gAdd (bV 4) (eTup (aC (e2 gAdd (eC (.str "!")) (bV 2)) (aN))))))
theorem v_inner (vs : List (List Wd)) (i : Wd) (hi : Nm i) (hl : ∀ v ∈ vs, v.length ≤ 100) (hn : vs.length ≤ 1000) (d0 d1 : D) (s4 : Sl) :
    ∃ b4, forS (gN 4) vBody (vs.map tw) [.fz d0, .fz d1, .fz (s i), .ow (ltw vs), s4] = some (.nx [.fz d0, .fz d1, .fz (s i), .ow (ltw (vs ++ vs.flatMap (grow i))), b4]) := by
  obtain ⟨e', h1, dn, b4, rfl, h2⟩ := forS_all (tg := gN 4) (body := vBody) tw (fun r e => ∃ dn b4, e = [.fz d0, .fz d1, .fz (s i), .ow (ltw (vs ++ dn.flatMap (grow i))), b4] ∧ vs = dn ++ r) vs
    (fun v r e hv ⟨dn, b4, he, h1⟩ => by
      subst he
      have hv := hl v hv
      have hd : dn.length ≤ vs.length := by rw [h1]; simp
      have hlen : (vs ++ dn.flatMap (grow i)).length = vs.length + 2 * dn.length := by
        rw [List.length_append, List.length_flatMap]
        have : ∀ l : List (List Wd), (l.map fun a => (grow i a).length).sum = 2 * l.length := fun l => by
          induction l with
          | nil => rfl
          | cons a l ih => simp [grow] at ih ⊢; omega
        rw [this]
      have g1 := gAdd_tw v [i] (by simp; omega)
      have g2 := gAdd_tw v [33 :: i] (by simp; omega)
      have g3 := gAdd_bang i (by have := hi.2.1; omega)
      have l1 : ((vs ++ dn.flatMap (grow i)).map tw).length < 16777216 := by rw [List.length_map]; omega
      have l2 : ((vs ++ dn.flatMap (grow i)).map tw ++ [tw (v ++ [i])]).length < 16777216 := by rw [List.length_append, List.length_map, List.length_singleton]; omega
      refine ⟨_, rfl, [.fz d0, .fz d1, .fz (s i), .ow (ltw (vs ++ (dn ++ [v]).flatMap (grow i))), .fz (tw v)], .inl ?_, dn ++ [v], _, rfl, by simp [h1]⟩
      have a1 : (e2 gAdd (bV 4) (eTup (aC (eV 2) (aN)))) [.fz d0, .fz d1, .fz (s i), .ow (ltw (vs ++ dn.flatMap (grow i))), .fz (tw v)] = ok (tw (v ++ [i])) := by
        simp only [e2_e, bV_e, eTup_e, aC_e, eV_e, aN_e, List.getElem?_cons_succ, List.getElem?_cons_zero, bR_ok, List.length_singleton]
        exact g1
      have a2 : ∀ x, (e2 gAdd (bV 4) (eTup (aC (e2 gAdd (eC (.str "!")) (bV 2)) (aN)))) [.fz d0, .fz d1, .fz (s i), .ow x, .fz (tw v)] = ok (tw (v ++ [33 :: i])) := fun x => by
        simp only [e2_e, bV_e, eTup_e, aC_e, eC_e, aN_e, List.getElem?_cons_succ, List.getElem?_cons_zero, bR_ok, List.length_singleton, g3]
        exact g2
      unfold vBody
      show sSeq _ _ [.fz d0, .fz d1, .fz (s i), .ow (ltw (vs ++ dn.flatMap (grow i))), .fz (tw v)] = _
      rw [sSeq_nx (e' := [.fz d0, .fz d1, .fz (s i), .ow (.lst ((vs ++ dn.flatMap (grow i)).map tw ++ [tw (v ++ [i])])), .fz (tw v)]) (by
        rw [sApp_ow, a1]
        simp only [List.getElem?_cons_succ, List.getElem?_cons_zero, ltw, sE_ok, l1, if_true, List.set_cons_succ, List.set_cons_zero])]
      rw [sApp_ow, a2]
      simp only [List.getElem?_cons_succ, List.getElem?_cons_zero, sE_ok, l2, if_true, List.set_cons_succ, List.set_cons_zero]
      unfold ltw
      rw [List.flatMap_append, List.map_append, List.map_append, List.map_append]
      simp [grow])
    [.fz d0, .fz d1, .fz (s i), .ow (ltw vs), s4] ⟨[], s4, by simp, by simp⟩
  have : dn = vs := by simpa using h2.symm
  subst this
  exact ⟨b4, h1⟩
/-- a view of the issues: its issues in order, its words verdicts on them -/
def Vw1 (issues : List Wd) (v : List Wd) : Prop := (v.map iss).Sublist issues ∧ ∀ w ∈ v, Vl issues w
theorem iss_bang (i : Wd) : iss (33 :: i) = i ∧ isY (33 :: i) = false := by simp [iss, isY]
theorem c_views (issues : List Wd) (hI : ∀ i ∈ issues, Nm i) (hl : issues.length ≤ 6) (hA : issues.Nodup) :
    ∃ rest, C__law_views [ls issues] = ok (ltw ([] :: rest)) ∧ (∀ v ∈ rest, v ≠ [] ∧ Vw1 issues v) ∧ ([] :: rest).Nodup ∧ rest.length + 1 = 3 ^ issues.length := by
  obtain ⟨e', h1, pre, vs, b2, b3, b4, rfl, h2, h3, h4, h5, h6⟩ := forS_all (tg := gN 2) (body := (sSeq (sSetO 3 (e1 gList (bV 1))) (sSeq (sFor (iA (eV 1)) (gN 4) vBody) (sFrz 3 (sSet 1 (eV 3)))))) s
    (fun r e => ∃ (pre : List Wd) (vs : List (List Wd)) (b2 b3 b4 : Sl), e = [.fz (ls issues), .fz (ltw vs), b2, b3, b4] ∧ issues = pre ++ r ∧ vs.length = 3 ^ pre.length ∧ (∀ v ∈ vs, (v.map iss).Sublist pre ∧ ∀ w ∈ v, Vl issues w) ∧ vs.Nodup ∧ ∃ rest, vs = [] :: rest ∧ ∀ v ∈ rest, v ≠ []) issues
    (fun i r e hi ⟨pre, vs, b2, b3, b4, he, h1, h2, h3, h4, rest, h5, h6⟩ => by
      subst he
      have hp : pre.length ≤ 5 := by rw [h1] at hl; simp at hl; omega
      have hn : vs.length ≤ 1000 := by
        have : 3 ^ pre.length ≤ 3 ^ 5 := Nat.pow_le_pow_right (by omega) hp
        omega
      have hip : i ∉ pre := by
        rw [h1] at hA
        have := List.nodup_append.mp hA
        exact fun z => this.2.2 i z i (by simp) rfl
      obtain ⟨c4, p1⟩ := v_inner vs i (hI i hi) (fun v hv => by have := ((h3 v hv).1).length_le; simp at this; omega) hn (ls issues) (ltw vs) b4
      refine ⟨_, rfl, [.fz (ls issues), .fz (ltw (vs ++ vs.flatMap (grow i))), .fz (s i), .fz (ltw (vs ++ vs.flatMap (grow i))), c4], .inl ?_, pre ++ [i], vs ++ vs.flatMap (grow i), _, _, _, rfl, by simp [h1], ?_, ?_, ?_, rest ++ vs.flatMap (grow i), by rw [h5]; rfl, ?_⟩
      · rw [sSeq_nx (e' := [.fz (ls issues), .fz (ltw vs), .fz (s i), .ow (ltw vs), b4]) (by simp [ltw, gList])]
        rw [sSeq_nx (e' := [.fz (ls issues), .fz (ltw vs), .fz (s i), .ow (ltw (vs ++ vs.flatMap (grow i))), c4]) (by rw [sFor_e]; exact p1)]
        simp [sFrz, frz]
      · rw [List.length_append, List.length_flatMap]
        have : ∀ l : List (List Wd), (l.map fun a => (grow i a).length).sum = 2 * l.length := fun l => by
          induction l with
          | nil => rfl
          | cons a l ih => simp [grow] at ih ⊢; omega
        rw [this, h2]; simp [Nat.pow_succ]; omega
      · intro v hv
        rcases List.mem_append.mp hv with hv | hv
        · exact ⟨(h3 v hv).1.trans (List.sublist_append_left _ _), (h3 v hv).2⟩
        · obtain ⟨u, hu, hv⟩ := List.mem_flatMap.mp hv
          have h7 := h3 u hu
          have hni := nm_iss (hI i hi)
          simp only [grow, List.mem_cons, List.not_mem_nil, or_false] at hv
          rcases hv with rfl | rfl
          · refine ⟨?_, fun w hw => ?_⟩
            · rw [List.map_append, List.map_singleton, hni.1]
              exact h7.1.append (List.Sublist.refl _)
            · rcases List.mem_append.mp hw with hw | hw
              · exact h7.2 w hw
              · rw [List.mem_singleton] at hw; subst hw; exact .inl hi
          · refine ⟨?_, fun w hw => ?_⟩
            · rw [List.map_append, List.map_singleton, (iss_bang i).1]
              exact h7.1.append (List.Sublist.refl _)
            · rcases List.mem_append.mp hw with hw | hw
              · exact h7.2 w hw
              · rw [List.mem_singleton] at hw; subst hw; exact .inr ⟨i, hi, rfl⟩
      · rw [List.nodup_append]
        refine ⟨h4, ?_, fun a ha b hb => ?_⟩
        · -- what has grown
          have : ∀ l : List (List Wd), l.Nodup → (l.flatMap (grow i)).Nodup := fun l => by
            induction l with
            | nil => intro _; simp
            | cons a l ih =>
              intro n
              have n := List.nodup_cons.mp n
              rw [List.flatMap_cons, List.nodup_append]
              refine ⟨by simp [grow], ih n.2, fun x hx y hy => ?_⟩
              obtain ⟨u, hu, hy⟩ := List.mem_flatMap.mp hy
              have hau : a ≠ u := fun z => n.1 (z ▸ hu)
              simp only [grow, List.mem_cons, List.not_mem_nil, or_false] at hx hy
              intro z
              subst z
              have e : a = u := by
                rcases hx with rfl | rfl <;> rcases hy with hy | hy
                · exact (List.append_inj' hy rfl).1
                · exact (List.append_inj' hy rfl).1
                · exact (List.append_inj' hy rfl).1
                · exact (List.append_inj' hy rfl).1
              exact hau e
          exact this vs h4
        · obtain ⟨u, hu, hb⟩ := List.mem_flatMap.mp hb
          have h8 := (h3 a ha).1
          have : i ∈ b.map iss := by
            simp only [grow, List.mem_cons, List.not_mem_nil, or_false] at hb
            rcases hb with rfl | rfl
            · rw [List.map_append, List.map_singleton, (nm_iss (hI i hi)).1]; simp
            · rw [List.map_append, List.map_singleton, (iss_bang i).1]; simp
          intro z
          subst z
          exact hip (h8.subset this)
      · intro v hv
        rcases List.mem_append.mp hv with hv | hv
        · exact h6 v hv
        · obtain ⟨u, hu, hv⟩ := List.mem_flatMap.mp hv
          simp only [grow, List.mem_cons, List.not_mem_nil, or_false] at hv
          rcases hv with rfl | rfl <;> simp)
    [.fz (ls issues), .fz (ltw [[]]), .un, .un, .un] ⟨[], [[]], _, _, _, rfl, rfl, rfl, by simp, by simp, [], rfl, by simp⟩
  have hp : pre = issues := by simpa using h2.symm
  subst hp
  obtain ⟨rest, rfl, h7⟩ := h6
  refine ⟨rest, ?_, fun v hv => ⟨h7 v hv, h4 v (by simp [hv])⟩, h5, ?_⟩
  · unfold vBody at h1
    unfold C__law_views
    show toR (B__law_views [.fz (ls pre), .un, .un, .un, .un]) = _
    unfold B__law_views
    rw [sSeq_nx (e' := [.fz (ls pre), .fz (ltw [[]]), .un, .un, .un]) (by simp [ltw, tw])]
    rw [sSeq_nx (by rw [sFor_e]; exact h1)]
    rfl
  · simpa using h3
end DL

namespace DL
open PySem PySem.Spec L2
open PyProof.Rows hiding St

/-! ### the law's sorting -/
def encP (v : List Wd) : D := .tup [.lst (v.map plcI), ls v]
theorem pl_encP (v : List Wd) : pl 8 (encP v) = true := by
  have h1 : pl 7 (.lst (v.map plcI)) = true := pl_lst plcI 6 (pl_plcI 5) v
  have h2 : pl 7 (ls v) = true := pl_ls 6 v
  simp [encP, pl, h1, h2] at *
  simpa [pl] using h1
theorem dal_encP (a b : List Wd) : dal (encP a) (encP b) = true := dal_pair (dal_lst plcI dal_plcI a b) (dal_ls a b)
theorem gSorted_encP (vs : List (List Wd)) (h : vs.length ≤ 16777216) : gSorted (.lst (vs.map encP)) = ok (.lst ((sortT encP vs).map encP)) :=
  gSorted_map encP vs h (fun x _ => pl_encP x) (fun x _ y _ => dal_encP x y) (.inl fun _ _ => rfl)
theorem c_sort (vs : List (List Wd)) (hv : ∀ v ∈ vs, ∀ w ∈ v, Vd w) (hl : vs.length ≤ 16777216) : C__law_sort [lls vs] = ok (lls (sortT encP vs)) := by
  have c1 := eComp_all (own := [2]) (it := iA (bV 0)) (tg := gN 2) (elt := eTup (aC (eCall C__law_order (aC (eV 2) (aN))) (aC (eV 2) (aN)))) (e := [.fz (lls vs), .un, .un]) ls encP vs (by simp [lls]) fun v h => ⟨_, rfl, by simp [c_order v (hv v h), encP]⟩
  have c2 := eComp_all (own := [1]) (it := iA (e1 gSorted (eComp [2] (iA (bV 0)) (gN 2) (tTrue) (eTup (aC (eCall C__law_order (aC (eV 2) (aN))) (aC (eV 2) (aN))))))) (tg := gN 1) (elt := e2 gIx (bV 1) (eC (.int 1))) (e := [.fz (lls vs), .un, .un]) encP ls (sortT encP vs)
    (by rw [iA_e, e1_e, c1, bR_ok, gSorted_encP vs hl]; rfl) fun v h => ⟨_, rfl, by
      simp only [e2_e, bV_e, eC_e, wipe_1, wipe_0, List.set_cons_succ, List.set_cons_zero, List.getElem?_cons_succ, List.getElem?_cons_zero, bR_ok]
      rfl⟩
  unfold C__law_sort
  show toRF (B__law_sort [.fz (lls vs), .un, .un]) = _
  unfold B__law_sort
  rw [sRetF_e, c2]
  rfl
def enc3 (w : Wd) : D := .tup [s (iss w), .int (if isY w then 0 else 1), s w]
theorem dal_enc3 (a b : Wd) : dal (enc3 a) (enc3 b) = true := rfl
theorem pl_enc3 (a : Wd) : pl 8 (enc3 a) = true := by simp [enc3, pl]
theorem c_view (ws : List Wd) (h : ∀ w ∈ ws, Vd w) (hl : ws.length ≤ 16777216) : C__law_view [ls ws] = ok (ls (sortT enc3 ws)) := by
  have c1 := eComp_all (own := [2]) (it := iA (bV 0)) (tg := gN 2) (elt := eTup (aC (eCall C__law_issue (aC (eV 2) (aN))) (aC (e1 gInt (e2 gEq (e2 gIx (bV 2) (eC (.int 0))) (eC (.str "!")))) (aC (eV 2) (aN))))) (e := [.fz (ls ws), .un, .un]) s enc3 ws (by simp [ls]) fun w hw => ⟨_, rfl, by
    have hw := h w hw
    cases w with
    | nil => exact absurd rfl hw.1
    | cons c w =>
      have hl : w.length < 16777216 := by have := hw.2; simp at this; omega
      simp [c_issue _ hw.1 hw.2, hl, lit1, enc3, isY]⟩
  have g := gSorted_map enc3 ws hl (fun x _ => pl_enc3 x) (fun x _ y _ => dal_enc3 x y) (.inl fun _ _ => rfl)
  have c2 := eComp_all (own := [1]) (it := iA (e1 gSorted (eComp [2] (iA (bV 0)) (gN 2) (tTrue) (eTup (aC (eCall C__law_issue (aC (eV 2) (aN))) (aC (e1 gInt (e2 gEq (e2 gIx (bV 2) (eC (.int 0))) (eC (.str "!")))) (aC (eV 2) (aN)))))))) (tg := gN 1) (elt := e2 gIx (bV 1) (eC (.int 2))) (e := [.fz (ls ws), .un, .un]) enc3 s (sortT enc3 ws)
    (by rw [iA_e, e1_e, c1, bR_ok, g]; rfl) fun v h => ⟨_, rfl, by
      simp only [e2_e, bV_e, eC_e, wipe_1, wipe_0, List.set_cons_succ, List.set_cons_zero, List.getElem?_cons_succ, List.getElem?_cons_zero, bR_ok]
      rfl⟩
  unfold C__law_view
  show toRF (B__law_view [.fz (ls ws), .un, .un]) = _
  unfold B__law_view
  rw [sRetF_e, c2]
  rfl

/-! ### the least contradictions -/
def leastB (kw : List (List Wd)) (v : List Wd) : Bool := !decide (v ∈ kw) && (List.range v.length).all fun k => decide (others v k ∈ kw)
@[simp] theorem gSl_tup (xs : List D) (lo hi : Option Int) : gSl (.tup xs) lo hi = ok (.tup (cutL xs lo hi)) := rfl
def lInner : FS := (sIf (tV (e2 gNotIn (e2 gAdd (eSl gSl (bV 3) (oN) (oS (eV 5))) (eSl gSl (bV 3) (oS (e2 gAdd (bV 5) (eC (.int 1)))) (oN))) (bV 1))) (sSet 4 (eC (.bl false))) (sNext))
theorem l_inner (kw : List (List Wd)) (vs : List D) (v : List Wd) (hv : v.length ≤ 100) (d0 : D) (s2 s5 : Sl) :
    ∃ b5, forS (gN 5) lInner ((List.range v.length).map fun k : Nat => .int k) [.fz d0, .fz (.dct true (kw.map tw) vs), s2, .fz (tw v), .fz (.bl true), s5] = some (.nx [.fz d0, .fz (.dct true (kw.map tw) vs), s2, .fz (tw v), .fz (.bl ((List.range v.length).all fun k => decide (others v k ∈ kw))), b5]) := by
  obtain ⟨e', h1, b5, rfl⟩ := forS_range (tg := gN 5) (body := lInner) (fun j e => ∃ b5, e = [.fz d0, .fz (.dct true (kw.map tw) vs), s2, .fz (tw v), .fz (.bl ((List.range j).all fun k => decide (others v k ∈ kw))), b5]) v.length
    (fun j hj e ⟨b5, he⟩ => by
      subst he
      have hol := others_len v j
      have g1 : gAdd (.tup ((v.map s).take j)) (.tup ((v.map s).drop (j + 1))) = ok (tw (others v j)) := by
        show (if _ then _ else _) = _
        rw [if_pos (by simp; omega)]
        unfold tw
        rw [map_others]
      have hc : (tV (e2 gNotIn (e2 gAdd (eSl gSl (bV 3) (oN) (oS (eV 5))) (eSl gSl (bV 3) (oS (e2 gAdd (bV 5) (eC (.int 1)))) (oN))) (bV 1))) [.fz d0, .fz (.dct true (kw.map tw) vs), s2, .fz (tw v), .fz (.bl ((List.range j).all fun k => decide (others v k ∈ kw))), .fz (.int j)] = ok (!decide (others v j ∈ kw)) := by
        have e1 : tw v = .tup (v.map s) := rfl
        simp only [tV_e, e2_e, eSl_e, bV_e, oN_e, oS_e, eV_e, eC_e, List.getElem?_cons_succ, List.getElem?_cons_zero, bR_ok, gAdd_i, e1, gSl_tup, cutL_toN, cutL_fromS, g1, gNotIn_tw, asB_bl]
      refine ⟨_, rfl, [.fz d0, .fz (.dct true (kw.map tw) vs), s2, .fz (tw v), .fz (.bl ((List.range (j + 1)).all fun k => decide (others v k ∈ kw))), .fz (.int j)], .inl ?_, _, rfl⟩
      unfold lInner
      show sIf _ _ _ [.fz d0, .fz (.dct true (kw.map tw) vs), s2, .fz (tw v), .fz (.bl ((List.range j).all fun k => decide (others v k ∈ kw))), .fz (.int j)] = _
      rw [sIf_e, hc, List.range_succ, List.all_append]
      by_cases q : others v j ∈ kw
      · simp [q]
      · simp [q])
    [.fz d0, .fz (.dct true (kw.map tw) vs), s2, .fz (tw v), .fz (.bl true), s5] ⟨s5, rfl⟩
  exact ⟨b5, h1⟩
def lBody : FS := (sIf (tV (e2 gNotIn (bV 3) (bV 1))) (sSeq (sSet 4 (eC (.bl true))) (sSeq (sFor (iR1 (e1 gLen (bV 3))) (gN 5) lInner) (sIf (tU (bV 4)) (sApp 2 (e1 gList (bV 3))) (sNext)))) (sNext))
theorem c_least (issues : List Wd) (hI : ∀ i ∈ issues, Nm i) (hl : issues.length ≤ 6) (kw : List (List Wd)) (vs : List D) (views : List (List Wd)) (hC : C__law_views [ls issues] = ok (ltw views)) (hvw : ∀ v ∈ views, Vw1 issues v) (hn : views.length ≤ 1000) :
    C__law_least [ls issues, .dct true (kw.map tw) vs] = ok (lls (sortT encP (views.filter (leastB kw)))) := by
  obtain ⟨e', h1, dn, b3, b4, b5, rfl, h2⟩ := forS_all (tg := gN 3) (body := lBody) tw (fun r e => ∃ (dn : List (List Wd)) (b3 b4 b5 : Sl), e = [.fz (ls issues), .fz (.dct true (kw.map tw) vs), .ow (lls (dn.filter (leastB kw))), b3, b4, b5] ∧ views = dn ++ r) views
    (fun v r e hv ⟨dn, b3, b4, b5, he, h1⟩ => by
      subst he
      have hlv : v.length ≤ 6 := by have := ((hvw v hv).1).length_le; simp at this; omega
      have hd : dn.length ≤ views.length := by rw [h1]; simp
      have hf := List.length_filter_le (leastB kw) dn
      have hlen : ((dn.filter (leastB kw)).map ls).length < 16777216 := by rw [List.length_map]; omega
      have hc : (tV (e2 gNotIn (bV 3) (bV 1))) [.fz (ls issues), .fz (.dct true (kw.map tw) vs), .ow (lls (dn.filter (leastB kw))), .fz (tw v), b4, b5] = ok (!decide (v ∈ kw)) := by
        simp only [tV_e, e2_e, bV_e, List.getElem?_cons_succ, List.getElem?_cons_zero, bR_ok, gNotIn_tw, asB_bl]
      by_cases q : v ∈ kw
      · refine ⟨_, rfl, [.fz (ls issues), .fz (.dct true (kw.map tw) vs), .ow (lls ((dn ++ [v]).filter (leastB kw))), .fz (tw v), b4, b5], .inl ?_, dn ++ [v], _, _, _, rfl, by simp [h1]⟩
        have : (dn ++ [v]).filter (leastB kw) = dn.filter (leastB kw) := by rw [List.filter_append]; simp [leastB, q]
        rw [this]
        unfold lBody
        show sIf _ _ _ [.fz (ls issues), .fz (.dct true (kw.map tw) vs), .ow (lls (dn.filter (leastB kw))), .fz (tw v), b4, b5] = _
        rw [sIf_e, hc]
        simp [q]
      · obtain ⟨c5, h3⟩ := l_inner kw vs v (by omega) (ls issues) (.ow (lls (dn.filter (leastB kw)))) b5
        have hr : iR1 (e1 gLen (bV 3)) [.fz (ls issues), .fz (.dct true (kw.map tw) vs), .ow (lls (dn.filter (leastB kw))), .fz (tw v), .fz (.bl true), b5] = ok ((List.range v.length).map fun k : Nat => .int k) := iR1_n (by simp [tw]) (by omega)
        have key : ∀ b : Bool, b = ((List.range v.length).all fun k => decide (others v k ∈ kw)) → lBody [.fz (ls issues), .fz (.dct true (kw.map tw) vs), .ow (lls (dn.filter (leastB kw))), .fz (tw v), b4, b5] = some (.nx [.fz (ls issues), .fz (.dct true (kw.map tw) vs), .ow (lls ((dn ++ [v]).filter (leastB kw))), .fz (tw v), .fz (.bl b), c5]) := by
          intro b hb
          rw [← hb] at h3
          have hlb : leastB kw v = b := by unfold leastB; rw [← hb]; simp [q]
          unfold lBody
          rw [sIf_e, hc]
          simp only [q, decide_false, Bool.not_false, sE_ok, if_true]
          rw [sSeq_nx (e' := [.fz (ls issues), .fz (.dct true (kw.map tw) vs), .ow (lls (dn.filter (leastB kw))), .fz (tw v), .fz (.bl true), b5]) (by simp)]
          rw [sSeq_nx (e' := [.fz (ls issues), .fz (.dct true (kw.map tw) vs), .ow (lls (dn.filter (leastB kw))), .fz (tw v), .fz (.bl b), c5]) (by rw [sFor_e, hr]; exact h3)]
          rw [List.filter_append]
          cases b with
          | true =>
            simp only [sIf_e, tU_e, bV_e, List.getElem?_cons_succ, List.getElem?_cons_zero, bR_ok, tru_bl, sE_ok, if_true, sApp_ow, lls, e1_e]
            simp [tw, gList, hlb, ls]
            rw [List.length_map] at hlen
            exact hlen
          | false => simp [hlb]
        exact ⟨_, rfl, _, .inl (key _ rfl), dn ++ [v], _, _, _, rfl, by simp [h1]⟩)
    [.fz (ls issues), .fz (.dct true (kw.map tw) vs), .ow (lls []), .un, .un, .un] ⟨[], _, _, _, rfl, rfl⟩
  have hp : dn = views := by simpa using h2.symm
  subst hp
  have hs := c_sort (dn.filter (leastB kw)) (fun v hv w hw => (vl_vd hI ((hvw v (List.mem_filter.mp hv).1).2 w hw)).1) (by have := List.length_filter_le (leastB kw) dn; omega)
  unfold lBody lInner at h1
  unfold C__law_least
  show toRF (B__law_least [.fz (ls issues), .fz (.dct true (kw.map tw) vs), .un, .un, .un, .un]) = _
  unfold B__law_least
  rw [sSeq_nx (e' := [.fz (ls issues), .fz (.dct true (kw.map tw) vs), .ow (lls []), .un, .un, .un]) (by simp [lls])]
  rw [sSeq_nx (e' := [.fz (ls issues), .fz (.dct true (kw.map tw) vs), .ow (lls (dn.filter (leastB kw))), b3, b4, b5]) (by
    have hi : iA (eCall C__law_views (aC (eV 0) (aN))) [.fz (ls issues), .fz (.dct true (kw.map tw) vs), .ow (lls []), .un, .un, .un] = ok (dn.map tw) := by
      simp only [iA_e, eCall_e, aC_e, eV_e, aN_e, List.getElem?_cons_zero, bR_ok, hC]
      rfl
    rw [sFor_e, hi]; exact h1)]
  simp only [sFrz, frz, List.getElem?_cons_succ, List.getElem?_cons_zero, List.set_cons_succ, List.set_cons_zero, sRetF_e, eCall_e, aC_e, eV_e, aN_e, bR_ok, hs, sE_ok]
  rfl
end DL

namespace DL
open PySem PySem.Spec L2
open PyProof.Rows hiding St

/-! ### the order of views is total -/
theorem word_eq (w : Wd) : w = if isY w then iss w else 33 :: iss w := by
  unfold isY iss
  by_cases h : w.head? = some 33
  · cases w with
    | nil => cases h
    | cons c w => simp at h; simp [h]
  · simp [h]
theorem eqP_iff (x y : Wd) : eqP x y = true ↔ x = y := by
  unfold eqP
  constructor
  · intro h
    simp only [Bool.and_eq_true, decide_eq_true_eq, beq_iff_eq] at h
    rw [word_eq x, word_eq y, h.1, h.2]
  · rintro rfl; simp
theorem ltP_tri {x y : Wd} (h : x ≠ y) (k : ltP y x = false) : ltP x y = true := by
  unfold ltP at *
  by_cases q : iss x = iss y
  · have hn : isY x ≠ isY y := fun z => h ((eqP_iff x y).mp (by unfold eqP; simp [q, z]))
    simp only [q, if_true] at k ⊢
    cases hx : isY x <;> cases hy : isY y <;> simp [hx, hy] at hn k ⊢
  · have q2 : ¬ iss y = iss x := fun z => q z.symm
    simp only [q, q2, if_false, decide_eq_false_iff_not, decide_eq_true_eq] at k ⊢
    rcases Decidable.em (iss x < iss y) with h1 | h1
    · exact h1
    · exact absurd (List.le_antisymm (List.not_lt.mp k) (List.not_lt.mp h1)) q
theorem ltV_tri : ∀ {a b : List Wd}, a ≠ b → ltV b a = false → ltV a b = true
  | [], [], h, _ => absurd rfl h
  | [], _ :: _, _, _ => rfl
  | _ :: _, [], _, k => by cases k
  | x :: a, y :: b, h, k => by
    unfold ltV lexB at *
    by_cases q : x = y
    · subst q
      have e : eqP x x = true := (eqP_iff x x).mpr rfl
      rw [if_pos e] at k ⊢
      exact ltV_tri (fun z => h (by rw [z])) k
    · have e1 : ¬ eqP x y = true := fun z => q ((eqP_iff x y).mp z)
      have e2 : ¬ eqP y x = true := fun z => q ((eqP_iff y x).mp z).symm
      rw [if_neg e1]
      rw [if_neg e2] at k
      exact ltP_tri q k
theorem deq_plcI' (x y : Wd) : deq (plcI x) (plcI y) = decide (x = y) := by
  rw [deq_plcI, Bool.eq_iff_iff, eqP_iff, decide_eq_true_eq]
theorem dlt_encP {a b : List Wd} (h : a ≠ b) : dlt (encP a) (encP b) = ltV a b := by
  unfold encP
  rw [dlt_pair (dal_lst plcI dal_plcI a b) (dal_ls a b), deq_lst plcI deq_plcI' a b, dlt_ordI]
  simp [h]
theorem ascB_of_pw {α : Type} (lt : α → α → Bool) : ∀ {l : List α}, l.Pairwise (fun a b => lt a b = true) → ascB lt l = true
  | [], _ => rfl
  | [x], _ => rfl
  | x :: y :: r, h => by
    have h := List.pairwise_cons.mp h
    unfold ascB
    rw [h.1 y (by simp), ascB_of_pw lt h.2]; rfl
/-! ### one view in another one -/
theorem sub_of_subset {α : Type} {R : α → α → Prop} (irr : ∀ a, ¬ R a a) (tr : ∀ a b c, R a b → R b c → R a c) : ∀ {l2 l1 : List α}, l1.Pairwise R → l2.Pairwise R → (∀ x ∈ l1, x ∈ l2) → l1.Sublist l2
  | _, [], _, _, _ => List.nil_sublist _
  | [], x :: l1, _, _, h => absurd (h x (by simp)) (by simp)
  | y :: l2, x :: l1, p1, p2, h => by
    have p1' := List.pairwise_cons.mp p1
    have p2' := List.pairwise_cons.mp p2
    rcases List.mem_cons.mp (h x (by simp)) with e | hx
    · subst e
      refine List.Sublist.cons₂ x (sub_of_subset irr tr p1'.2 p2'.2 fun z hz => ?_)
      rcases List.mem_cons.mp (h z (by simp [hz])) with e | h2
      · subst e; exact absurd (p1'.1 z hz) (irr z)
      · exact h2
    · refine List.Sublist.cons y (sub_of_subset irr tr p1 p2'.2 fun z hz => ?_)
      rcases List.mem_cons.mp (h z hz) with e | h2
      · subst e
        rcases List.mem_cons.mp hz with e | hz
        · subst e; exact hx
        · exact absurd (tr _ _ _ (p1'.1 z hz) (p2'.1 x hx)) (irr x)
      · exact h2
theorem sub_others {α : Type} : ∀ {o v : List α}, o.Sublist v → o ≠ v → ∃ k, k < v.length ∧ o.Sublist (others v k)
  | _, _, .slnil, h => absurd rfl h
  | _, _, .cons (l₂ := v) a h, _ => ⟨0, by simp, by simpa [others] using h⟩
  | _, _, .cons₂ (l₁ := o) (l₂ := v) a h, hn => by
    obtain ⟨k, hk, h2⟩ := sub_others h fun z => hn (by rw [z])
    refine ⟨k + 1, by simp; omega, ?_⟩
    have : others (a :: v) (k + 1) = a :: others v k := by simp [others]
    rw [this]
    exact List.Sublist.cons₂ a h2
/-- a view as a value -/
def vw (v : List Wd) : Vw := .l (v.map .w)
def va (vs : List (List Wd)) : Va := .l (vs.map vw)
theorem vw_d (v : List Wd) : (vw v).d = ls v := by
  show D.lst _ = D.lst _
  rw [List.map_map]; rfl
theorem va_d (vs : List (List Wd)) : (va vs).d = lls vs := by
  show D.lst _ = D.lst _
  rw [List.map_map]
  exact congrArg D.lst (List.map_congr_left fun v _ => vw_d v)
theorem vw_words (v : List Wd) : wordsV (vw v) = v := by
  show words (v.map It.w) = v
  unfold words
  rw [List.map_map]
  show v.map (fun x => x) = v
  simp
theorem asc_sub {issues l : List Wd} (h : Asc issues) (k : l.Sublist issues) : Asc l := List.Pairwise.sublist k h
theorem ascB_ltW {l : List Wd} (h : Asc l) : ascB ltW l = true := ascB_of_pw ltW (h.imp fun {a b} z => by simpa [ltW] using z)
theorem vw_bar (issues : List Wd) (hI : ∀ i ∈ issues, Nm i) (hA : Asc issues) (v : List Wd) (h0 : v ≠ []) (h : Vw1 issues v) : barOK issues (vw v) = true := by
  have hv : ∀ x ∈ v, vOK issues (.w x) = true := fun x hx => by
    have := vl_vd hI (h.2 x hx)
    have h1 := this.1.1
    simp only [vOK, Bool.and_eq_true, decide_eq_true_eq]
    exact ⟨by cases x <;> simp at h1 ⊢, this.2.2⟩
  have h1 : (v.map It.w).all (vOK issues) = true := by
    rw [List.all_map, List.all_eq_true]; exact hv
  have h2 : vwB issues (words (v.map It.w)) = true := by
    have : words (v.map It.w) = v := vw_words v
    rw [this]
    exact ascB_ltW (asc_sub hA h.1)
  have h3 : 0 < v.length := List.length_pos_iff.mpr h0
  simp [barOK, vw, vwOK, neB, h1, h2]
  exact h3
theorem least_bar (issues : List Wd) (hI : ∀ i ∈ issues, Nm i) (hA : Asc issues) (L : List (List Wd)) (hv : ∀ v ∈ L, v ≠ [] ∧ Vw1 issues v) (nd : L.Nodup) (pw : L.Pairwise (fun a b => dlt (encP b) (encP a) = false))
    (hm : ∀ v ∈ L, ∀ o ∈ L, o ≠ v → ¬ ∀ w ∈ o, w ∈ v) : isB issues (va L) = true := by
  have e : (L.map vw).map wordsV = L := by
    rw [List.map_map]
    have : L.map (wordsV ∘ vw) = L.map id := List.map_congr_left fun v _ => vw_words v
    rw [this]; simp
  unfold va isB
  simp only [Bool.and_eq_true]
  rw [e]
  refine ⟨?_, ascB_of_pw ltV ?_, (nha_iff L).mpr fun k hk j hj hjk => ?_⟩
  · rw [List.all_map, List.all_eq_true]
    exact fun v h => vw_bar issues hI hA v (hv v h).1 (hv v h).2
  · refine (List.Pairwise.and_mem.mp (pw.and nd)).imp fun {a b} z => ?_
    obtain ⟨_, _, z1, z2⟩ := z
    rw [dlt_encP (fun q => z2 q.symm)] at z1
    exact ltV_tri z2 z1
  · have mk := getD_mem L k [] hk
    have mj := getD_mem L j [] hj
    have hne : L.getD j [] ≠ L.getD k [] := by
      intro z
      rw [List.getD_eq_getElem?_getD, List.getD_eq_getElem?_getD, List.getElem?_eq_getElem hj, List.getElem?_eq_getElem hk] at z
      have z : L[j] = L[k] := by simpa using z
      rcases Nat.lt_or_gt_of_ne hjk with q | q
      · exact List.pairwise_iff_getElem.mp nd j k hj hk q z
      · exact List.pairwise_iff_getElem.mp nd k j hk hj q z.symm
    rw [Bool.eq_false_iff]
    intro z
    refine hm _ mk _ mj hne fun w hw => ?_
    unfold hasB at z
    rw [List.all_eq_true] at z
    simpa using z w hw
theorem least_min (issues : List Wd) (hA : Asc issues) (kw ops : List (List Wd)) (hk : ∀ x, x ∈ kw ↔ ∃ o ∈ ops, x.Sublist o) (v o : List Wd) (hv : Vw1 issues v) (ho : Vw1 issues o) (lv : leastB kw v = true) (lo : leastB kw o = true) (hne : o ≠ v) : ¬ ∀ w ∈ o, w ∈ v := by
  intro h
  have pv : v.Pairwise (fun a b => iss a < iss b) := List.pairwise_map.mp (asc_sub hA hv.1)
  have po : o.Pairwise (fun a b => iss a < iss b) := List.pairwise_map.mp (asc_sub hA ho.1)
  have hs := sub_of_subset (R := fun a b : Wd => iss a < iss b) (fun a => lt_irr _) (fun a b c h1 h2 => List.lt_trans h1 h2) po pv h
  obtain ⟨k, hk2, h2⟩ := sub_others hs hne
  simp only [leastB, Bool.and_eq_true, List.all_eq_true, decide_eq_true_eq, Bool.not_eq_true', decide_eq_false_iff_not] at lv lo
  obtain ⟨p, hp, h3⟩ := (hk _).mp (lv.2 k (List.mem_range.mpr hk2))
  exact lo.1 ((hk o).mpr ⟨p, hp, h2.trans h3⟩)
end DL

namespace DL
open PySem PySem.Spec L2
open PyProof.Rows hiding St

/-! ### what is looked at, as data -/
def GVw (d : D) : Prop := ∃ x : Vw, d = x.d ∧ x.ok ∧ (itemsV x).length ≤ 1000
def GVa (d : D) : Prop := ∃ v : Va, d = v.d ∧ v.ok ∧ ∀ vs, v = .l vs → vs.length ≤ 1000 ∧ ∀ x ∈ vs, (itemsV x).length ≤ 1000
theorem gvw_ls (ws : List Wd) (h : ∀ w ∈ ws, w.length ≤ 1000) (hl : ws.length ≤ 1000) : GVw (ls ws) :=
  ⟨vw ws, (vw_d ws).symm, fun x hx => by obtain ⟨w, hw, rfl⟩ := List.mem_map.mp hx; exact h w hw, by simpa [vw, itemsV] using hl⟩
theorem gvw_tw (ws : List Wd) (h : ∀ w ∈ ws, w.length ≤ 1000) : GVw (tw ws) :=
  ⟨.t (ws.map .w), by show D.tup _ = D.tup _; rw [List.map_map]; rfl, fun x hx => by obtain ⟨w, hw, rfl⟩ := List.mem_map.mp hx; exact h w hw, by simp [itemsV]⟩
theorem gvw_non : GVw .non := ⟨.a .no, rfl, trivial, by simp [itemsV]⟩
theorem gvw_nons : GVw (.lst [.non]) := ⟨.l [.no], rfl, fun x hx => by simp at hx; subst hx; trivial, by simp [itemsV]⟩
theorem gvw_s (w : Wd) (h : w.length ≤ 1000) : GVw (s w) := ⟨.a (.w w), rfl, h, by simp [itemsV]⟩
theorem gva_lst {ds : List D} (h : ∀ d ∈ ds, GVw d) (hl : ds.length ≤ 1000) : GVa (.lst ds) := by
  have : ∃ vs : List Vw, ds = vs.map Vw.d ∧ ∀ x ∈ vs, x.ok ∧ (itemsV x).length ≤ 1000 := by
    clear hl
    induction ds with
    | nil => exact ⟨[], rfl, by simp⟩
    | cons d ds ih =>
      obtain ⟨x, h1, h2, h3⟩ := h d (by simp)
      obtain ⟨vs, h4, h5⟩ := ih fun d hd => h d (by simp [hd])
      refine ⟨x :: vs, by rw [h1, h4]; rfl, fun y hy => ?_⟩
      rcases List.mem_cons.mp hy with rfl | hy
      · exact ⟨h2, h3⟩
      · exact h5 y hy
  obtain ⟨vs, rfl, h2⟩ := this
  refine ⟨.l vs, rfl, fun v hv => (h2 v hv).1, fun us e => ?_⟩
  cases e
  exact ⟨by simpa using hl, fun x hx => (h2 x hx).2⟩
theorem gva_tup {ds : List D} (h : ∀ d ∈ ds, GVw d) : GVa (.tup ds) := by
  have : ∃ vs : List Vw, ds = vs.map Vw.d := by
    induction ds with
    | nil => exact ⟨[], rfl⟩
    | cons d ds ih =>
      obtain ⟨x, h1, h2, h3⟩ := h d (by simp)
      obtain ⟨vs, h4⟩ := ih fun d hd => h d (by simp [hd])
      exact ⟨x :: vs, by rw [h1, h4]; rfl⟩
  obtain ⟨vs, rfl⟩ := this
  exact ⟨.t vs, rfl, trivial, fun us e => nomatch e⟩
/-- a view that is drawn: short words, not many -/
def VwS (v : List Wd) : Prop := v ≠ [] ∧ v.length ≤ 6 ∧ ∀ w ∈ v, Vd w ∧ w.length ≤ 13 ∧ ∀ c ∈ w, c < 256
theorem vws_gvw {v : List Wd} (h : VwS v) : GVw (ls v) := gvw_ls v (fun w hw => by have := (h.2.2 w hw).2.1; omega) (by have := h.2.1; omega)
theorem c_opposite (w : Wd) (h : Vd w) : ∃ w', C__law_opposite [s w] = ok (s w') ∧ w'.length ≤ w.length + 1 := by
  obtain ⟨h0, hl⟩ := h
  cases w with
  | nil => exact absurd rfl h0
  | cons c w =>
    have h1 : w.length < 16777216 := by simp at hl; omega
    by_cases q : c = 33
    · refine ⟨w, ?_, by simp; omega⟩
      simp only [C__law_opposite, B__law_opposite, startE, List.map_cons, List.map_nil, List.length_singleton, List.replicate, List.singleton_append]
      simp [h1, lit1, q]
      rw [gSl_s _ _ _ (by simp; omega)]; simp
    · refine ⟨33 :: c :: w, ?_, by simp⟩
      have g := gAdd_bang (c :: w) hl
      rw [lit1] at g
      simp only [C__law_opposite, B__law_opposite, startE, List.map_cons, List.map_nil, List.length_singleton, List.replicate, List.singleton_append]
      simp [h1, lit1, q, g]
theorem strsOf_s : ∀ ws : List Wd, strsOf (ws.map s) = some (ws.map fun w => (⟨w.toArray⟩ : Str))
  | [] => rfl
  | w :: ws => by
    show (strsOf (ws.map s)).map _ = _
    rw [strsOf_s ws]; rfl
theorem join0 : ∀ ws : List Wd, Str.join ⟨#[]⟩ (ws.map fun w => (⟨w.toArray⟩ : Str)) = ⟨ws.flatten.toArray⟩
  | [] => rfl
  | [w] => by simp [Str.join]
  | w :: v :: r => by
    have ih := join0 (v :: r)
    simp only [List.map_cons] at ih ⊢
    show (⟨w.toArray⟩ ++ ⟨#[]⟩ ++ Str.join ⟨#[]⟩ (⟨v.toArray⟩ :: r.map fun w => (⟨w.toArray⟩ : Str)) : Str) = _
    rw [ih]
    have e1 : (⟨w.toArray⟩ ++ ⟨#[]⟩ : Str) = ⟨w.toArray⟩ := by
      have := s_app w []
      simpa using this
    rw [e1, s_app]
    simp
theorem gJoin_ls (ws : List Wd) (h : ∀ w ∈ ws, w.length ≤ 13 ∧ ∀ c ∈ w, c < 256) (hl : ws.length ≤ 6) : gJoin ⟨#[]⟩ (ls ws) = ok (s ws.flatten) := by
  have hj : Txt.join ⟨#[]⟩ (ws.map fun w => (⟨w.toArray⟩ : Str)) = ⟨ws.flatten.toArray⟩ := by rw [TL.join_eq, join0]
  have hs : ∀ us : List Wd, (∀ w ∈ us, w.length ≤ 13) → ((us.map fun w => (⟨w.toArray⟩ : Str)).map (·.length)).sum ≤ 13 * us.length := fun us => by
    induction us with
    | nil => intro _; simp
    | cons u us ih =>
      intro k
      have k1 := k u (by simp)
      have k2 := ih fun w hw => k w (by simp [hw])
      simp only [List.map_cons, List.sum_cons, List.length_cons, s_len]
      omega
  have h2 := hs ws fun w hw => (h w hw).1
  show ((strsOf (ws.map s)).elim none fun ys => if (ys.map (·.length)).sum + ys.length * Str.length ⟨#[]⟩ ≤ 16777216 ∧ PyData.strOk (Txt.join ⟨#[]⟩ ys) = true then ok (D.str (Txt.join ⟨#[]⟩ ys)) else none) = _
  rw [strsOf_s]
  simp only [Option.elim]
  rw [hj, if_pos]
  · rfl
  · refine ⟨?_, ?_⟩
    · have e0 : Str.length ⟨#[]⟩ = 0 := rfl
      rw [e0]; omega
    · unfold PyData.strOk
      simp only [List.all_toArray, List.all_eq_true, decide_eq_true_eq]
      intro c hc
      obtain ⟨w, hw, hc⟩ := List.mem_flatten.mp hc
      have := (h w hw).2 c hc
      omega
theorem cutL_map {α β : Type} (f : α → β) (xs : List α) (lo hi : Option Int) : cutL (xs.map f) lo hi = (cutL xs lo hi).map f := by
  unfold cutL; simp
theorem cutL_mem {α : Type} {xs : List α} {lo hi : Option Int} {x : α} (h : x ∈ cutL xs lo hi) : x ∈ xs := List.mem_of_mem_drop (List.mem_of_mem_take h)
theorem cutL_len {α : Type} (xs : List α) (lo hi : Option Int) : (cutL xs lo hi).length ≤ xs.length := by unfold cutL; simp; omega
theorem gSl_ls (ws : List Wd) (lo hi : Option Int) : gSl (ls ws) lo hi = ok (ls (cutL ws lo hi)) := by
  unfold ls; rw [gSl_lst, cutL_map]
/-- the eleven views with one thing wrong -/
def wrongs : En → R (List D) := (aC (eSl gSl (bV 7) (oS (eC (.int 1))) (oN)) (aC (eSl gSl (bV 7) (oN) (oS (e1 gNeg (eC (.int 1))))) (aC (e2 gAdd (eLst (aC (eCall C__law_opposite (aC (e2 gIx (bV 7) (eC (.int 0))) (aN))) (aN))) (eSl gSl (bV 7) (oS (eC (.int 1))) (oN))) (aC (e2 gAdd (bV 7) (eLst (aC (eV 2) (aN)))) (aC (eLst (aC (eV 2) (aN))) (aC (e1 gTuple (bV 7)) (aC (eC .non) (aC (e2 gAdd (bV 7) (bV 7)) (aC (e1 gRev (bV 7)) (aC (eM1 gJoin (eC (.str "")) (bV 7)) (aC (eLst (aC (eC .non) (aN))) (aN))))))))))))
theorem wrongs_ok (view : List Wd) (hv : VwS view) (st : Wd) (hs : st.length ≤ 1000) (e : En) (h7 : e[7]? = some (.fz (ls view))) (h2 : e[2]? = some (.fz (s st))) : ∃ ds, wrongs e = ok ds ∧ ds.length = 11 ∧ ∀ d ∈ ds, GVw d := by
  obtain ⟨hv0, hvl, hvw⟩ := hv
  have hw : ∀ w ∈ view, w.length ≤ 1000 := fun w h => by have := (hvw w h).2.1; omega
  have hc : ∀ lo hi, GVw (ls (cutL view lo hi)) := fun lo hi => gvw_ls _ (fun w h => hw w (cutL_mem h)) (by have := cutL_len view lo hi; omega)
  have hp := List.length_pos_iff.mpr hv0
  have g0 := gIx_map s view [] 0 hp
  obtain ⟨w', o1, o2⟩ := c_opposite (view.getD 0 []) (hvw _ (getD_mem view 0 [] hp)).1
  have hw0 := (hvw _ (getD_mem view 0 [] hp)).2.1
  have g1 : gAdd (ls [w']) (ls (cutL view (some 1) none)) = ok (ls (w' :: cutL view (some 1) none)) := gAdd_ls [w'] _ (by have := cutL_len view (some 1) none; simp; omega)
  have g2 := gAdd_ls view [st] (by simp; omega)
  have g3 := gAdd_ls view view (by omega)
  have gj := gJoin_ls view (fun w h => (hvw w h).2) hvl
  have hf : view.flatten.length ≤ 1000 := by
    have : ∀ us : List Wd, (∀ w ∈ us, w.length ≤ 13) → us.flatten.length ≤ 13 * us.length := fun us => by
      induction us with
      | nil => intro _; simp
      | cons u us ih =>
        intro k
        have k1 := k u (by simp)
        have k2 := ih fun w hw => k w (by simp [hw])
        simp only [List.flatten_cons, List.length_append, List.length_cons]
        omega
    have := this view fun w h => (hvw w h).2.1
    omega
  refine ⟨[ls (cutL view (some 1) none), ls (cutL view none (some (-1))), ls (w' :: cutL view (some 1) none), ls (view ++ [st]), ls [st], tw view, .non, ls (view ++ view), ls view.reverse, s view.flatten, .lst [.non]], ?_, rfl, ?_⟩
  · have e0 : (eLst (aC (eCall C__law_opposite (aC (e2 gIx (bV 7) (eC (.int 0))) (aN))) (aN))) e = ok (ls [w']) := by
      have g0' : gIx (ls view) (.int 0) = ok (s (view.getD 0 [])) := g0
      simp only [eLst_e, aC_e, eCall_e, e2_e, bV_e, h7, eC_e, bR_ok, g0', aN_e, o1, List.length_singleton, Nat.reduceLeDiff, if_true]
      rfl
    have e1' : (e1 gTuple (bV 7)) e = ok (tw view) := by simp only [e1_e, bV_e, h7, bR_ok]; rfl
    have e2' : (e1 gRev (bV 7)) e = ok (ls view.reverse) := by
      simp only [e1_e, bV_e, h7, bR_ok]
      show ok (D.lst (view.map s).reverse) = _
      unfold ls; rw [List.map_reverse]
    have e3' : (eM1 gJoin (eC (.str "")) (bV 7)) e = ok (s view.flatten) := by
      have l0 : (D.str "") = .str ⟨#[]⟩ := rfl
      unfold eM1
      simp only [eC_e, bR_ok, l0, bV_e, h7, gj]
    have e4' : (eLst (aC (eV 2) (aN))) e = ok (ls [st]) := by
      simp only [eLst_e, aC_e, eV_e, h2, aN_e, bR_ok, List.length_singleton, Nat.reduceLeDiff, if_true]; rfl
    have e5' : (eLst (aC (eC .non) (aN))) e = ok (.lst [.non]) := by
      simp only [eLst_e, aC_e, eC_e, aN_e, bR_ok, List.length_singleton, Nat.reduceLeDiff, if_true]
    have e6' : (eSl gSl (bV 7) (oS (eC (.int 1))) (oN)) e = ok (ls (cutL view (some 1) none)) := by
      simp only [eSl_e, bV_e, h7, oS_e, eC_e, oN_e, bR_ok, gSl_ls]
    have e7' : (eSl gSl (bV 7) (oN) (oS (e1 gNeg (eC (.int 1))))) e = ok (ls (cutL view none (some (-1)))) := by
      simp only [eSl_e, bV_e, h7, oS_e, eC_e, oN_e, e1_e, gNeg_i, bR_ok, gSl_ls]
    unfold wrongs
    simp only [aC_e, e0, e1', e2', e3', e4', e5', e6', e7', e2_e, bV_e, h7, bR_ok, g1, g2, g3, eC_e, aN_e]
  · intro d hd
    simp only [List.mem_cons, List.not_mem_nil, or_false] at hd
    rcases hd with rfl | rfl | rfl | rfl | rfl | rfl | rfl | rfl | rfl | rfl | rfl
    · exact hc _ _
    · exact hc _ _
    · exact gvw_ls _ (fun w h => by
        rcases List.mem_cons.mp h with rfl | h
        · omega
        · exact hw w (cutL_mem h)) (by have := cutL_len view (some 1) none; simp only [List.length_cons]; omega)
    · exact gvw_ls _ (fun w h => by
        rcases List.mem_append.mp h with h | h
        · exact hw w h
        · rw [List.mem_singleton] at h; subst h; exact hs) (by simp; omega)
    · exact gvw_ls _ (fun w h => by rw [List.mem_singleton] at h; subst h; exact hs) (by simp)
    · exact gvw_tw _ hw
    · exact gvw_non
    · exact gvw_ls _ (fun w h => by
        rcases List.mem_append.mp h with h | h
        · exact hw w h
        · exact hw w h) (by simp; omega)
    · exact gvw_ls _ (fun w h => hw w (List.mem_reverse.mp h)) (by simp; omega)
    · exact gvw_s _ hf
    · exact gvw_nons
end DL

namespace DL
open PySem PySem.Spec L2
open PyProof.Rows hiding St

theorem gva_lls (vs : List (List Wd)) (h : ∀ v ∈ vs, (∀ w ∈ v, w.length ≤ 1000) ∧ v.length ≤ 1000) (hl : vs.length ≤ 1000) : GVa (lls vs) :=
  gva_lst (fun d hd => by obtain ⟨v, hv, rfl⟩ := List.mem_map.mp hd; exact gvw_ls v (h v hv).1 (h v hv).2) (by simpa using hl)
theorem gSl_lls (vs : List (List Wd)) (lo hi : Option Int) : gSl (lls vs) lo hi = ok (lls (cutL vs lo hi)) := by
  unfold lls; rw [gSl_lst, cutL_map]
theorem gAdd_lls (a b : List (List Wd)) (h : a.length + b.length ≤ 16777216) : gAdd (lls a) (lls b) = ok (lls (a ++ b)) := by
  unfold lls
  rw [gAdd_lst _ _ (by simpa using h), List.map_append]
theorem gLen_lls (vs : List (List Wd)) : gLen (lls vs) = ok (.int vs.length) := by unfold lls; rw [gLen_lst, List.length_map]
theorem gEq_lls0 (vs : List (List Wd)) : gEq (lls vs) (.lst []) = ok (.bl vs.isEmpty) := by
  have := gEq_lst0 (vs.map ls) (by rw [List.all_map]; simp)
  rw [List.isEmpty_map] at this
  exact this
/-- a view's words and their number are small -/
def Sm (v : List Wd) : Prop := (∀ w ∈ v, w.length ≤ 1000) ∧ v.length ≤ 1000
theorem vws_sm {v : List Wd} (h : VwS v) : Sm v := ⟨fun w hw => by have := (h.2.2 w hw).2.1; omega, by have := h.2.1; omega⟩
def bentE1 : En → R D := (eLst (aC (eV 0) (aC (e1 gRev (bV 0)) (aC (eSl gSl (bV 0) (oS (eC (.int 1))) (oN)) (aC (e1 gTuple (bV 0)) (aC (eC .non) (aC (eC (.int 5)) (aC (eC (.str "")) (aC (eDct false) (aC (eLst (aC (eLst (aN)) (aN))) (aC (e2 gAdd (bV 0) (eLst (aC (eLst (aN)) (aN)))) (aC (e2 gAdd (eLst (aC (eLst (aN)) (aN))) (bV 0)) (aC (e2 gAdd (bV 0) (eLst (aC (eC .non) (aN)))) (aC (eLst (aC (e2 gIx (bV 1) (eC (.int 0))) (aN))) (aC (eLst (aC (e1 gTuple (eSl gSl (bV 1) (oN) (oS (eC (.int 1))))) (aN))) (aN))))))))))))))))
theorem bent1 (bars : List (List Wd)) (hb : ∀ v ∈ bars, Sm v) (hbl : bars.length ≤ 100) (issues : List Wd) (hI : ∀ i ∈ issues, Nm i) (hi : 0 < issues.length) (e : En) (h0 : e[0]? = some (.fz (lls bars))) (h1 : e[1]? = some (.fz (ls issues))) :
    ∃ ds, bentE1 e = ok (.lst ds) ∧ ds.length = 14 ∧ ∀ d ∈ ds, GVa d := by
  have hI' : ∀ w ∈ issues, w.length ≤ 1000 := fun w h => by have := (hI w h).2.1; omega
  have g0 : gIx (ls issues) (.int 0) = ok (s (issues.getD 0 [])) := gIx_map s issues [] 0 hi
  have w0 : (issues.getD 0 []).length ≤ 1000 := hI' _ (getD_mem issues 0 [] hi)
  have g1 : gAdd (lls bars) (lls [[]]) = ok (lls (bars ++ [[]])) := gAdd_lls _ _ (by simp; omega)
  have g2 : gAdd (lls [[]]) (lls bars) = ok (lls ([] :: bars)) := gAdd_lls [[]] _ (by simp; omega)
  have g3 : gAdd (lls bars) (.lst [.non]) = ok (.lst (bars.map ls ++ [.non])) := by unfold lls; rw [gAdd_lst _ _ (by simp; omega)]
  refine ⟨[lls bars, lls bars.reverse, lls (cutL bars (some 1) none), .tup (bars.map ls), .non, .int 5, s [], .dct false [] [], lls [[]], lls (bars ++ [[]]), lls ([] :: bars), .lst (bars.map ls ++ [.non]), ls [issues.getD 0 []], .lst [tw (cutL issues none (some 1))]], ?_, rfl, ?_⟩
  · have a1 : (e1 gRev (bV 0)) e = ok (lls bars.reverse) := by
      simp only [e1_e, bV_e, h0, bR_ok]
      show ok (D.lst (bars.map ls).reverse) = _
      unfold lls; rw [List.map_reverse]
    have a2 : (eSl gSl (bV 0) (oS (eC (.int 1))) (oN)) e = ok (lls (cutL bars (some 1) none)) := by
      simp only [eSl_e, bV_e, h0, oS_e, eC_e, oN_e, bR_ok, gSl_lls]
    have a3 : (e1 gTuple (bV 0)) e = ok (.tup (bars.map ls)) := by simp only [e1_e, bV_e, h0, bR_ok]; rfl
    have a4 : (eLst (aC (eLst (aN)) (aN))) e = ok (lls [[]]) := by
      simp only [eLst_e, aC_e, aN_e, bR_ok, List.length_nil, Nat.zero_le, if_true, List.length_singleton, Nat.reduceLeDiff]; rfl
    have a5 : (eLst (aC (eC .non) (aN))) e = ok (.lst [.non]) := by
      simp only [eLst_e, aC_e, eC_e, aN_e, bR_ok, List.length_singleton, Nat.reduceLeDiff, if_true]
    have a6 : (eLst (aC (e2 gIx (bV 1) (eC (.int 0))) (aN))) e = ok (ls [issues.getD 0 []]) := by
      simp only [eLst_e, aC_e, e2_e, bV_e, h1, eC_e, aN_e, bR_ok, g0, List.length_singleton, Nat.reduceLeDiff, if_true]; rfl
    have a7 : (eLst (aC (e1 gTuple (eSl gSl (bV 1) (oN) (oS (eC (.int 1))))) (aN))) e = ok (.lst [tw (cutL issues none (some 1))]) := by
      have t : gTuple (ls (cutL issues none (some 1))) = ok (tw (cutL issues none (some 1))) := rfl
      simp only [eLst_e, aC_e, e1_e, eSl_e, bV_e, h1, oN_e, oS_e, eC_e, aN_e, bR_ok, gSl_ls, t, List.length_singleton, Nat.reduceLeDiff, if_true]
    have a8 : (eDct false) e = ok (.dct false [] []) := rfl
    unfold bentE1
    rw [eLst_e]
    simp only [aC_e, aN_e, eV_e, bV_e, eC_e, h0, bR_ok, a1, a2, a3, a4, a5, a6, a7, a8, e2_e, g1, g2, g3, lit0]
    rfl
  · have hbr : ∀ d ∈ bars.map ls, GVw d := fun d hd => by obtain ⟨v, hv, rfl⟩ := List.mem_map.mp hd; exact gvw_ls v (hb v hv).1 (hb v hv).2
    intro d hd
    simp only [List.mem_cons, List.not_mem_nil, or_false] at hd
    rcases hd with rfl | rfl | rfl | rfl | rfl | rfl | rfl | rfl | rfl | rfl | rfl | rfl | rfl | rfl
    · exact gva_lls _ hb (by omega)
    · exact gva_lls _ (fun v h => hb v (List.mem_reverse.mp h)) (by simp; omega)
    · exact gva_lls _ (fun v h => hb v (cutL_mem h)) (by have := cutL_len bars (some 1) none; omega)
    · exact gva_tup hbr
    · exact ⟨.a .no, rfl, trivial, fun us e => nomatch e⟩
    · exact ⟨.i 5, rfl, trivial, fun us e => nomatch e⟩
    · exact ⟨.a (.w []), rfl, trivial, fun us e => nomatch e⟩
    · exact ⟨.e, rfl, trivial, fun us e => nomatch e⟩
    · exact gva_lls _ (fun v h => by rw [List.mem_singleton] at h; subst h; exact ⟨by simp, by simp⟩) (by simp)
    · exact gva_lls _ (fun v h => by
        rcases List.mem_append.mp h with h | h
        · exact hb v h
        · rw [List.mem_singleton] at h; subst h; exact ⟨by simp, by simp⟩) (by simp; omega)
    · exact gva_lls _ (fun v h => by
        rcases List.mem_cons.mp h with rfl | h
        · exact ⟨by simp, by simp⟩
        · exact hb v h) (by simp; omega)
    · exact gva_lst (fun d hd => by
        rcases List.mem_append.mp hd with h | h
        · exact hbr d h
        · rw [List.mem_singleton] at h; subst h; exact gvw_non) (by simp; omega)
    · exact gva_lst (fun d hd => by
        simp only [List.map_cons, List.map_nil, List.mem_singleton] at hd; subst hd; exact gvw_s _ w0) (by simp)
    · exact gva_lst (fun d hd => by
        rw [List.mem_singleton] at hd; subst hd
        exact gvw_tw _ fun w h => hI' w (cutL_mem h)) (by simp)
/-- the answer where there are no bars -/
def bentR0 : En → R D := (e2 gAdd (bV 4) (eLst (aC (eLst (aC (eLst (aC (e2 gIx (bV 1) (eC (.int 0))) (aN))) (aN))) (aC (eLst (aC (eLst (aC (e2 gIx (bV 1) (e1 gNeg (eC (.int 1)))) (aN))) (aC (eLst (aC (e2 gAdd (eC (.str "!")) (e2 gIx (bV 1) (e1 gNeg (eC (.int 1))))) (aN))) (aN)))) (aC (eLst (aC (eLst (aC (e2 gAdd (eC (.str "!")) (e2 gIx (bV 1) (e1 gNeg (eC (.int 1))))) (aN))) (aC (eLst (aC (e2 gIx (bV 1) (e1 gNeg (eC (.int 1)))) (aN))) (aN)))) (aN))))))
theorem bentR0_ok (issues : List Wd) (hI : ∀ i ∈ issues, Nm i) (hi : issues ≠ []) (ds : List D) (hds : ∀ d ∈ ds, GVa d) (hl : ds.length ≤ 100) (e : En) (h1 : e[1]? = some (.fz (ls issues))) (h4 : e[4]? = some (.ow (.lst ds))) :
    ∃ ds', bentR0 e = ok (.lst ds') ∧ ∀ d ∈ ds', GVa d := by
  have hI' : ∀ w ∈ issues, w.length ≤ 12 := fun w h => (hI w h).2.1
  have hp := List.length_pos_iff.mpr hi
  have g0 : gIx (ls issues) (.int 0) = ok (s (issues.getD 0 [])) := gIx_map s issues [] 0 hp
  have gl : gIx (ls issues) (.int (-1)) = ok (s (issues.getLast hi)) := by
    unfold ls
    rw [gIx_last _ (by simpa using hi), List.getLast_map]
  have w0 := hI' _ (getD_mem issues 0 [] hp)
  have wl := hI' _ (List.getLast_mem hi)
  generalize issues.getD 0 [] = x at *
  generalize issues.getLast hi = y at *
  have gb := gAdd_bang y (by omega)
  have one : ∀ (f : En → R D) (d : D), f e = ok d → (eLst (aC f (aN))) e = ok (.lst [d]) := fun f d h => by
    simp only [eLst_e, aC_e, h, aN_e, bR_ok, List.length_singleton, Nat.reduceLeDiff, if_true]
  have two : ∀ (f g : En → R D) (d d' : D), f e = ok d → g e = ok d' → (eLst (aC f (aC g (aN)))) e = ok (.lst [d, d']) := fun f g d d' h h' => by
    simp only [eLst_e, aC_e, h, h', aN_e, bR_ok, List.length_cons, List.length_nil, Nat.reduceAdd, Nat.reduceLeDiff, if_true]
  have f0 : (e2 gIx (bV 1) (eC (.int 0))) e = ok (s x) := by simp only [e2_e, bV_e, h1, eC_e, bR_ok, g0]
  have fl : (e2 gIx (bV 1) (e1 gNeg (eC (.int 1)))) e = ok (s y) := by simp only [e2_e, bV_e, h1, e1_e, eC_e, gNeg_i, bR_ok, gl]
  have fb : (e2 gAdd (eC (.str "!")) (e2 gIx (bV 1) (e1 gNeg (eC (.int 1))))) e = ok (s (33 :: y)) := by
    rw [e2_e, fl]; simp only [eC_e, bR_ok, gb]
  have q1 := one _ _ (one _ _ f0)
  have q2 := two _ _ _ _ (one _ _ fl) (one _ _ fb)
  have q3 := two _ _ _ _ (one _ _ fb) (one _ _ fl)
  refine ⟨ds ++ [lls [[x]], lls [[y], [33 :: y]], lls [[33 :: y], [y]]], ?_, fun d hd => ?_⟩
  · unfold bentR0
    rw [e2_e]
    simp only [bV_e, h4, bR_ok]
    rw [eLst_e, aC_e, q1, bR_ok, aC_e, q2, bR_ok, aC_e, q3, bR_ok, aN_e]
    simp only [bR_ok, List.length_cons, List.length_nil, Nat.reduceAdd, Nat.reduceLeDiff, if_true]
    rw [gAdd_lst _ _ (by simp; omega)]
    rfl
  · rcases List.mem_append.mp hd with h | h
    · exact hds d h
    · have sm1 : ∀ w : Wd, w.length ≤ 1000 → Sm [w] := fun w h => ⟨fun z hz => by rw [List.mem_singleton] at hz; subst hz; exact h, by simp⟩
      have s1 := sm1 x (by omega)
      have s2 := sm1 y (by omega)
      have s3 := sm1 (33 :: y) (by simp; omega)
      simp only [List.mem_cons, List.not_mem_nil, or_false] at h
      rcases h with rfl | rfl | rfl
      · exact gva_lls _ (fun v hv => by rw [List.mem_singleton] at hv; subst hv; exact s1) (by simp)
      · exact gva_lls _ (fun v hv => by
          simp only [List.mem_cons, List.not_mem_nil, or_false] at hv
          rcases hv with rfl | rfl
          · exact s2
          · exact s3) (by simp)
      · exact gva_lls _ (fun v hv => by
          simp only [List.mem_cons, List.not_mem_nil, or_false] at hv
          rcases hv with rfl | rfl
          · exact s3
          · exact s2) (by simp)
end DL

namespace DL
open PySem PySem.Spec L2
open PyProof.Rows hiding St

def wBody : FS := (sApp 4 (e2 gAdd (e2 gAdd (eSl gSl (bV 0) (oN) (oS (eV 5))) (eLst (aC (eV 8) (aN)))) (eSl gSl (bV 0) (oS (e2 gAdd (bV 5) (eC (.int 1)))) (oN))))
/-- found grows by the bars with one put in for the one at that place -/
theorem bent5 (bars : List (List Wd)) (hb : ∀ v ∈ bars, Sm v) (hbl : bars.length ≤ 100) (d1 d2 d3 : D) (a : Nat) (d6 d7 : D) (s9 s10 s11 s12 : Sl) (ws : List D) (hw : ∀ d ∈ ws, GVw d) (hwl : ws.length ≤ 100) (ds : List D) (hds : ∀ d ∈ ds, GVa d) (hl : ds.length ≤ 100) (s8 : Sl) :
    ∃ ds' b8, forS (gN 8) wBody ws [.fz (lls bars), .fz d1, .fz d2, .fz d3, .ow (.lst ds), .fz (.int a), .fz d6, .fz d7, s8, s9, s10, s11, s12] = some (.nx [.fz (lls bars), .fz d1, .fz d2, .fz d3, .ow (.lst ds'), .fz (.int a), .fz d6, .fz d7, b8, s9, s10, s11, s12]) ∧ (∀ d ∈ ds', GVa d) ∧ ds'.length ≤ ds.length + ws.length := by
  obtain ⟨e', h1, acc, b8, rfl, h2, h3⟩ := forS_all (tg := gN 8) (body := wBody) (fun d : D => d) (fun r e => ∃ (acc : List D) (b8 : Sl), e = [.fz (lls bars), .fz d1, .fz d2, .fz d3, .ow (.lst acc), .fz (.int a), .fz d6, .fz d7, b8, s9, s10, s11, s12] ∧ (∀ d ∈ acc, GVa d) ∧ acc.length + r.length ≤ ds.length + ws.length) ws
    (fun d r e hd ⟨acc, b8, he, h1, h2⟩ => by
      subst he
      simp only [List.length_cons] at h2
      have l1 := cutL_len bars none (some (a : Int))
      have g1 : gAdd (lls (bars.take a)) (.lst [d]) = ok (.lst ((bars.take a).map ls ++ [d])) := by unfold lls; rw [gAdd_lst _ _ (by simp; omega)]
      have g2 : gAdd (.lst ((bars.take a).map ls ++ [d])) (lls (bars.drop (a + 1))) = ok (.lst ((bars.take a).map ls ++ [d] ++ (bars.drop (a + 1)).map ls)) := by
        unfold lls; rw [gAdd_lst _ _ (by simp; omega)]
      have hlen : acc.length < 16777216 := by omega
      refine ⟨_, rfl, [.fz (lls bars), .fz d1, .fz d2, .fz d3, .ow (.lst (acc ++ [.lst ((bars.take a).map ls ++ [d] ++ (bars.drop (a + 1)).map ls)])), .fz (.int a), .fz d6, .fz d7, .fz d, s9, s10, s11, s12], .inl ?_, _, _, rfl, fun x hx => ?_, by simp; omega⟩
      · have ev : (e2 gAdd (e2 gAdd (eSl gSl (bV 0) (oN) (oS (eV 5))) (eLst (aC (eV 8) (aN)))) (eSl gSl (bV 0) (oS (e2 gAdd (bV 5) (eC (.int 1)))) (oN))) [.fz (lls bars), .fz d1, .fz d2, .fz d3, .ow (.lst acc), .fz (.int a), .fz d6, .fz d7, .fz d, s9, s10, s11, s12] = ok (.lst ((bars.take a).map ls ++ [d] ++ (bars.drop (a + 1)).map ls)) := by
          simp only [e2_e, eSl_e, bV_e, eV_e, oN_e, oS_e, eC_e, eLst_e, aC_e, aN_e, List.getElem?_cons_succ, List.getElem?_cons_zero, bR_ok, gSl_lls, gAdd_i, cutL_toN, cutL_fromS, List.length_singleton, Nat.reduceLeDiff, if_true, g1, g2]
        unfold wBody
        show sApp 4 _ [.fz (lls bars), .fz d1, .fz d2, .fz d3, .ow (.lst acc), .fz (.int a), .fz d6, .fz d7, .fz d, s9, s10, s11, s12] = _
        rw [sApp_ow, ev]
        simp only [List.getElem?_cons_succ, List.getElem?_cons_zero, sE_ok, hlen, if_true, List.set_cons_succ, List.set_cons_zero]
      · rcases List.mem_append.mp hx with hx | hx
        · exact h1 x hx
        · rw [List.mem_singleton] at hx; subst hx
          refine gva_lst (fun y hy => ?_) (by simp; omega)
          have hbr : ∀ v ∈ bars, GVw (ls v) := fun v hv => gvw_ls v (hb v hv).1 (hb v hv).2
          rcases List.mem_append.mp hy with hy | hy
          · rcases List.mem_append.mp hy with hy | hy
            · obtain ⟨v, hv, rfl⟩ := List.mem_map.mp hy; exact hbr v (List.mem_of_mem_take hv)
            · rw [List.mem_singleton] at hy; subst hy; exact hw _ hd
          · obtain ⟨v, hv, rfl⟩ := List.mem_map.mp hy; exact hbr v (List.mem_of_mem_drop hv))
    [.fz (lls bars), .fz d1, .fz d2, .fz d3, .ow (.lst ds), .fz (.int a), .fz d6, .fz d7, s8, s9, s10, s11, s12] ⟨ds, _, rfl, hds, Nat.le_refl _⟩
  rw [List.map_id''] at h1
  · exact ⟨acc, b8, h1, h2, by simpa using h3⟩
  · exact fun _ => rfl
def fF : En → R D := eComp [12] (iA (bV 1)) (gN 12) (fAnd (tV (e2 gNotIn (bV 12) (bV 7))) (tV (e2 gNotIn (e2 gAdd (eC (.str "!")) (bV 12)) (bV 7)))) (eV 12)
theorem bent6 (issues view : List Wd) (hI : ∀ i ∈ issues, Nm i) (d0 d2 d3 : D) (s4 : Sl) (d5 d6 : D) (s8 s9 s10 s11 s12 : Sl) :
    ∃ p, fF [.fz d0, .fz (ls issues), .fz d2, .fz d3, s4, .fz d5, .fz d6, .fz (ls view), s8, s9, s10, s11, s12] = ok (ls (issues.filter p)) := by
  refine ⟨fun i => !decide (i ∈ view) && !decide ((33 :: i) ∈ view), ?_⟩
  have c := eComp_map (own := [12]) (it := iA (bV 1)) (tg := gN 12) (cond := (fAnd (tV (e2 gNotIn (bV 12) (bV 7))) (tV (e2 gNotIn (e2 gAdd (eC (.str "!")) (bV 12)) (bV 7))))) (elt := eV 12) (e := [.fz d0, .fz (ls issues), .fz d2, .fz d3, s4, .fz d5, .fz d6, .fz (ls view), s8, s9, s10, s11, s12])
    s (fun i => !decide (i ∈ view) && !decide ((33 :: i) ∈ view)) s issues (by simp [ls]) fun i hi => ⟨_, rfl, by
      have g := gAdd_bang i (by have := (hI i hi).2.1; omega)
      by_cases q : i ∈ view
      · simp [q]
      · simp [q, g], fun _ => by simp⟩
  exact c
theorem gCat_lst (a b : List D) (h : a.length + b.length ≤ 16777216) : gCat (.lst a) (.lst b) = ok (.lst (a ++ b)) := by
  show (if _ then _ else _) = _
  rw [if_pos h]
def fS7 : FS := (sIf (tV (e2 gNe (bV 9) (eLst (aN)))) (sSeq (sSet 10 (eCall C__law_view (aC (e2 gAdd (bV 7) (eLst (aC (e2 gIx (bV 9) (e2 gMod (e2 gIx (bV 3) (eC (.int 2))) (e1 gLen (bV 9)))) (aN)))) (aN)))) (sSetO 4 (e2 gCat (bV 4) (eLst (aC (eCall C__law_sort (aC (e2 gAdd (bV 0) (eLst (aC (eV 10) (aN)))) (aN))) (aC (e2 gAdd (e2 gAdd (eSl gSl (bV 0) (oN) (oS (eV 5))) (eLst (aC (eV 10) (aN)))) (eSl gSl (bV 0) (oS (e2 gAdd (bV 5) (eC (.int 1)))) (oN))) (aN))))))) (sNext))
theorem bent7 (bars : List (List Wd)) (hb : ∀ v ∈ bars, VwS v) (hbl : bars.length ≤ 100) (view : List Wd) (hv : VwS view) (free : List Wd) (hf : ∀ i ∈ free, Nm i) (n : List Int) (hn : n.length = 3) (a : Nat) (d1 d2 d6 : D) (ds : List D) (hds : ∀ d ∈ ds, GVa d) (hl : ds.length ≤ 100) (s8 s10 s11 s12 : Sl) :
    ∃ ds' b10, fS7 [.fz (lls bars), .fz d1, .fz d2, .fz (is n), .ow (.lst ds), .fz (.int a), .fz d6, .fz (ls view), s8, .fz (ls free), s10, s11, s12] = some (.nx [.fz (lls bars), .fz d1, .fz d2, .fz (is n), .ow (.lst ds'), .fz (.int a), .fz d6, .fz (ls view), s8, .fz (ls free), b10, s11, s12]) ∧ (∀ d ∈ ds', GVa d) ∧ ds'.length ≤ ds.length + 2 := by
  have c0 := gNe_lst0 (free.map s) (by rw [List.all_map]; simp)
  rw [List.isEmpty_map] at c0
  by_cases q : free = []
  · refine ⟨ds, s10, ?_, hds, by omega⟩
    subst q
    simp only [List.map_nil, List.isEmpty_nil, Bool.not_true] at c0
    simp [fS7, ls, c0]
  · have q2 : free.isEmpty = false := by cases free <;> simp at q ⊢
    rw [q2] at c0
    have g1 := gIx_is n 2 2 rfl (by omega)
    generalize n[2]'(by omega) = z at *
    obtain ⟨f, hfm, g2⟩ := gIx_lsm free z (List.length_pos_iff.mpr q)
    have hfn := hf f hfm
    have g0 : gMod (.int z) (.int free.length) = ok (.int (z % (free.length : Int))) := gMod_i _ _ (by have := List.length_pos_iff.mpr q; omega)
    have g3 := gAdd_ls view [f] (by have := hv.2.1; simp; omega)
    have hvd : ∀ w ∈ view ++ [f], Vd w ∧ w.length ≤ 1000 := fun w hw => by
      rcases List.mem_append.mp hw with hw | hw
      · exact ⟨(hv.2.2 w hw).1, (hv.2.2 w hw).1.2⟩
      · rw [List.mem_singleton] at hw; subst hw; exact ⟨⟨hfn.1, by have := hfn.2.1; omega⟩, by have := hfn.2.1; omega⟩
    have g4 := c_view (view ++ [f]) (fun w hw => (hvd w hw).1) (by have := hv.2.1; simp; omega)
    generalize hlo : sortT enc3 (view ++ [f]) = longer at *
    have hlm : ∀ w ∈ longer, Vd w ∧ w.length ≤ 1000 := fun w hw => hvd w (by rw [← hlo, sortT_mem] at hw; exact hw)
    have hll : longer.length ≤ 7 := by rw [← hlo, sortT_len]; have := hv.2.1; simp; omega
    have sml : Sm longer := ⟨fun w hw => (hlm w hw).2, by omega⟩
    have g5 : gAdd (lls bars) (lls [longer]) = ok (lls (bars ++ [longer])) := gAdd_lls _ _ (by simp; omega)
    have g6 := c_sort (bars ++ [longer]) (fun v hv w hw => by
      rcases List.mem_append.mp hv with h | h
      · exact ((hb v h).2.2 w hw).1
      · rw [List.mem_singleton] at h; subst h; exact (hlm w hw).1) (by simp; omega)
    have g7 : gAdd (lls (bars.take a)) (lls [longer]) = ok (lls (bars.take a ++ [longer])) := gAdd_lls _ _ (by simp; omega)
    have g8 : gAdd (lls (bars.take a ++ [longer])) (lls (bars.drop (a + 1))) = ok (lls (bars.take a ++ [longer] ++ bars.drop (a + 1))) := gAdd_lls _ _ (by simp; omega)
    have l1 : D.lst [ls longer] = lls [longer] := rfl
    have smb : ∀ v ∈ bars, Sm v := fun v hv => vws_sm (hb v hv)
    have g9 : gCat (.lst ds) (.lst [lls (sortT encP (bars ++ [longer])), lls (bars.take a ++ [longer] ++ bars.drop (a + 1))]) = ok (.lst (ds ++ [lls (sortT encP (bars ++ [longer])), lls (bars.take a ++ [longer] ++ bars.drop (a + 1))])) := by
      exact gCat_lst _ _ (by simp; omega)
    refine ⟨ds ++ [lls (sortT encP (bars ++ [longer])), lls (bars.take a ++ [longer] ++ bars.drop (a + 1))], .fz (ls longer), ?_, fun d hd => ?_, by simp⟩
    · unfold fS7
      have hc : (tV (e2 gNe (bV 9) (eLst (aN)))) [.fz (lls bars), .fz d1, .fz d2, .fz (is n), .ow (.lst ds), .fz (.int a), .fz d6, .fz (ls view), s8, .fz (ls free), s10, s11, s12] = ok true := by
        simp only [tV_e, e2_e, bV_e, eLst_e, aN_e, List.getElem?_cons_succ, List.getElem?_cons_zero, bR_ok, List.length_nil, Nat.zero_le, if_true, ls, c0, asB_bl, Bool.not_false]
      rw [sIf_e, hc]
      simp only [sE_ok, if_true]
      rw [sSeq_nx (e' := [.fz (lls bars), .fz d1, .fz d2, .fz (is n), .ow (.lst ds), .fz (.int a), .fz d6, .fz (ls view), s8, .fz (ls free), .fz (ls longer), s11, s12]) (by
        have x1 : (eLst (aC (e2 gIx (bV 9) (e2 gMod (e2 gIx (bV 3) (eC (.int 2))) (e1 gLen (bV 9)))) (aN))) [.fz (lls bars), .fz d1, .fz d2, .fz (is n), .ow (.lst ds), .fz (.int a), .fz d6, .fz (ls view), s8, .fz (ls free), s10, s11, s12] = ok (ls [f]) := by
          simp only [eLst_e, aC_e, e2_e, e1_e, bV_e, eC_e, aN_e, List.getElem?_cons_succ, List.getElem?_cons_zero, bR_ok, g1, gLen_ls, g0, g2, List.length_singleton, Nat.reduceLeDiff, if_true]
          rfl
        rw [sSet_e, eCall_e, aC_e, e2_e, x1]
        simp only [bV_e, List.getElem?_cons_succ, List.getElem?_cons_zero, bR_ok, g3, aN_e, g4, sE_ok, List.set_cons_succ, List.set_cons_zero])]
      have x2 : (eLst (aC (eV 10) (aN))) [.fz (lls bars), .fz d1, .fz d2, .fz (is n), .ow (.lst ds), .fz (.int a), .fz d6, .fz (ls view), s8, .fz (ls free), .fz (ls longer), s11, s12] = ok (lls [longer]) := by
        simp only [eLst_e, aC_e, eV_e, aN_e, List.getElem?_cons_succ, List.getElem?_cons_zero, bR_ok, List.length_singleton, Nat.reduceLeDiff, if_true, l1]
      rw [sSetO_e, e2_e, eLst_e, aC_e, eCall_e, aC_e, e2_e, x2, aC_e, e2_e, e2_e, x2]
      simp only [bV_e, eSl_e, oN_e, oS_e, eV_e, eC_e, aN_e, e2_e, List.getElem?_cons_succ, List.getElem?_cons_zero, bR_ok, g5, g6, gSl_lls, gAdd_i, cutL_toN, cutL_fromS, g7, g8, List.length_cons, List.length_nil, Nat.reduceAdd, Nat.reduceLeDiff, if_true, g9, sE_ok, List.set_cons_succ, List.set_cons_zero]
    · rcases List.mem_append.mp hd with h | h
      · exact hds d h
      · simp only [List.mem_cons, List.not_mem_nil, or_false] at h
        rcases h with rfl | rfl
        · refine gva_lls _ (fun v hv => ?_) (by rw [sortT_len]; simp; omega)
          rcases List.mem_append.mp ((sortT_mem encP _ v).mp hv) with h | h
          · exact smb v h
          · rw [List.mem_singleton] at h; subst h; exact sml
        · refine gva_lls _ (fun v hv => ?_) (by simp; omega)
          rcases List.mem_append.mp hv with h | h
          · rcases List.mem_append.mp h with h | h
            · exact smb v (List.mem_of_mem_take h)
            · rw [List.mem_singleton] at h; subst h; exact sml
          · exact smb v (List.mem_of_mem_drop h)
end DL

namespace DL
open PySem PySem.Spec L2
open PyProof.Rows hiding St

theorem ixN_nat {n k : Nat} (h : k < n) : ixN n (k : Int) = some k := by
  unfold ixN
  simp [h]
theorem c_bent (bars : List (List Wd)) (hb : ∀ v ∈ bars, VwS v) (hbl : bars.length ≤ 40) (issues : List Wd) (hI : ∀ i ∈ issues, Nm i) (hi : 0 < issues.length) (st : Wd) (hst : st.length ≤ 1000) (n : List Int) (hn : n.length = 3) :
    ∃ ds, C__law_bent [lls bars, ls issues, s st, is n] = ok (.lst ds) ∧ ∀ d ∈ ds, GVa d := by
  have hbs : ∀ v ∈ bars, Sm v := fun v hv => vws_sm (hb v hv)
  have hi' : issues ≠ [] := List.length_pos_iff.mp hi
  obtain ⟨ds1, q1, l1, v1⟩ := bent1 bars hbs (by omega) issues hI hi [.fz (lls bars), .fz (ls issues), .fz (s st), .fz (is n), .un, .un, .un, .un, .un, .un, .un, .un, .un] rfl rfl
  unfold C__law_bent
  show ∃ ds, toR (B__law_bent [.fz (lls bars), .fz (ls issues), .fz (s st), .fz (is n), .un, .un, .un, .un, .un, .un, .un, .un, .un]) = ok (.lst ds) ∧ _
  unfold bentE1 at q1
  unfold B__law_bent
  rw [sSeq_nx (e' := [.fz (lls bars), .fz (ls issues), .fz (s st), .fz (is n), .ow (.lst ds1), .un, .un, .un, .un, .un, .un, .un, .un]) (by rw [sSetO_e, q1]; rfl)]
  have hc : (tV (e2 gEq (bV 0) (eLst (aN)))) [.fz (lls bars), .fz (ls issues), .fz (s st), .fz (is n), .ow (.lst ds1), .un, .un, .un, .un, .un, .un, .un, .un] = ok bars.isEmpty := by
    simp only [tV_e, e2_e, bV_e, eLst_e, aN_e, List.getElem?_cons_zero, bR_ok, List.length_nil, Nat.zero_le, if_true, gEq_lls0, asB_bl]
  by_cases q : bars = []
  · obtain ⟨ds2, q2, v2⟩ := bentR0_ok issues hI hi' ds1 v1 (by omega) [.fz (lls bars), .fz (ls issues), .fz (s st), .fz (is n), .ow (.lst ds1), .un, .un, .un, .un, .un, .un, .un, .un] rfl rfl
    unfold bentR0 at q2
    refine ⟨ds2, ?_, v2⟩
    have e0 : bars.isEmpty = true := by subst q; rfl
    rw [sSeq_e, sIf_e, hc, e0]
    simp only [sE_ok, if_true]
    rw [sRet_e, q2]
    rfl
  · have e0 : bars.isEmpty = false := by cases bars <;> simp at q ⊢
    have hp : 0 < bars.length := List.length_pos_iff.mpr q
    rw [sSeq_nx (e' := [.fz (lls bars), .fz (ls issues), .fz (s st), .fz (is n), .ow (.lst ds1), .un, .un, .un, .un, .un, .un, .un, .un]) (by rw [sIf_e, hc, e0]; rfl)]
    have g1 := gIx_is n 0 0 rfl (by omega)
    have g2 := gIx_is n 1 1 rfl (by omega)
    generalize n[0]'(by omega) = z0 at *
    generalize n[1]'(by omega) = z1 at *
    have m1 : 0 ≤ z0 % (bars.length : Int) := Int.emod_nonneg _ (by omega)
    have m2 : z0 % (bars.length : Int) < bars.length := Int.emod_lt_of_pos _ (by omega)
    have m3 : 0 ≤ z1 % (bars.length : Int) := Int.emod_nonneg _ (by omega)
    have m4 : z1 % (bars.length : Int) < bars.length := Int.emod_lt_of_pos _ (by omega)
    obtain ⟨a, ha⟩ := Int.eq_ofNat_of_zero_le m1
    obtain ⟨b, hb2⟩ := Int.eq_ofNat_of_zero_le m3
    have ha2 : a < bars.length := by omega
    have hb3 : b < bars.length := by omega
    have g3 : gMod (.int z0) (.int bars.length) = ok (.int a) := by rw [gMod_i _ _ (by omega), ha]
    have g4 : gMod (.int z1) (.int bars.length) = ok (.int b) := by rw [gMod_i _ _ (by omega), hb2]
    have g5 : gIx (lls bars) (.int a) = ok (ls (bars.getD a [])) := gIx_map ls bars [] a ha2
    have g6 : gIx (lls bars) (.int b) = ok (ls (bars.getD b [])) := gIx_map ls bars [] b hb3
    have hvw := hb _ (getD_mem bars a [] ha2)
    have hvo := hb _ (getD_mem bars b [] hb3)
    generalize hview : bars.getD a [] = view at *
    generalize bars.getD b [] = oth at *
    rw [sSeq_nx (e' := [.fz (lls bars), .fz (ls issues), .fz (s st), .fz (is n), .ow (.lst ds1), .fz (.int a), .fz (.int b), .un, .un, .un, .un, .un, .un]) (by
      have x1 : (aC (e2 gMod (e2 gIx (bV 3) (eC (.int 0))) (e1 gLen (bV 0))) (aC (e2 gMod (e2 gIx (bV 3) (eC (.int 1))) (e1 gLen (bV 0))) (aN))) [.fz (lls bars), .fz (ls issues), .fz (s st), .fz (is n), .ow (.lst ds1), .un, .un, .un, .un, .un, .un, .un, .un] = ok [.int a, .int b] := by
        simp only [aC_e, e2_e, e1_e, bV_e, eC_e, aN_e, List.getElem?_cons_succ, List.getElem?_cons_zero, bR_ok, g1, g2, gLen_lls, g3, g4]
      unfold sPar2
      rw [x1]
      rfl)]
    rw [sSeq_nx (e' := [.fz (lls bars), .fz (ls issues), .fz (s st), .fz (is n), .ow (.lst ds1), .fz (.int a), .fz (.int b), .fz (ls view), .un, .un, .un, .un, .un]) (by
      simp only [sSet_e, e2_e, bV_e, List.getElem?_cons_succ, List.getElem?_cons_zero, bR_ok, g5, sE_ok, List.set_cons_succ, List.set_cons_zero])]
    obtain ⟨ws, w1, w2, w3⟩ := wrongs_ok view hvw st hst [.fz (lls bars), .fz (ls issues), .fz (s st), .fz (is n), .ow (.lst ds1), .fz (.int a), .fz (.int b), .fz (ls view), .un, .un, .un, .un, .un] rfl rfl
    obtain ⟨ds2, b8, f2, v2, l2⟩ := bent5 bars hbs (by omega) (ls issues) (s st) (is n) a (.int b) (ls view) .un .un .un .un ws w3 (by omega) ds1 v1 (by omega) .un
    unfold wBody at f2
    unfold wrongs at w1
    rw [sSeq_nx (e' := [.fz (lls bars), .fz (ls issues), .fz (s st), .fz (is n), .ow (.lst ds2), .fz (.int a), .fz (.int b), .fz (ls view), b8, .un, .un, .un, .un]) (by
      rw [sFor_e, iA_e, eLst_e, w1]
      simp only [bR_ok, w2, Nat.reduceLeDiff, if_true, items_lst, sE_ok]
      exact f2)]
    obtain ⟨p, f3⟩ := bent6 issues view hI (lls bars) (s st) (is n) (.ow (.lst ds2)) (.int a) (.int b) b8 .un .un .un .un
    unfold fF at f3
    rw [sSeq_nx (e' := [.fz (lls bars), .fz (ls issues), .fz (s st), .fz (is n), .ow (.lst ds2), .fz (.int a), .fz (.int b), .fz (ls view), b8, .fz (ls (issues.filter p)), .un, .un, .un]) (by rw [sSet_e, f3]; rfl)]
    obtain ⟨ds3, b10, f4, v4, l4⟩ := bent7 bars hb (by omega) view hvw (issues.filter p) (fun i h => hI i (List.mem_filter.mp h).1) n hn a (ls issues) (s st) (.int b) ds2 v2 (by omega) b8 .un .un .un
    unfold fS7 at f4
    rw [sSeq_nx f4]
    rw [sSeq_nx (e' := [.fz (lls bars), .fz (ls issues), .fz (s st), .fz (is n), .ow (.lst ds3), .fz (.int a), .fz (.int b), .fz (ls view), b8, .fz (ls (issues.filter p)), b10, .ow (lls bars), .un]) (by
      simp only [sSetO_e, e1_e, bV_e, List.getElem?_cons_zero, bR_ok]
      rfl)]
    rw [sSeq_nx (e' := [.fz (lls bars), .fz (ls issues), .fz (s st), .fz (is n), .ow (.lst ds3), .fz (.int a), .fz (.int b), .fz (ls view), b8, .fz (ls (issues.filter p)), b10, .ow (lls ((bars.set a oth).set b view)), .un]) (by
      have x1 : (eTup (aC (e2 gIx (bV 0) (bV 6)) (aC (e2 gIx (bV 0) (bV 5)) (aN)))) [.fz (lls bars), .fz (ls issues), .fz (s st), .fz (is n), .ow (.lst ds3), .fz (.int a), .fz (.int b), .fz (ls view), b8, .fz (ls (issues.filter p)), b10, .ow (lls bars), .un] = ok (.tup [ls oth, ls view]) := by
        simp only [eTup_e, aC_e, e2_e, bV_e, aN_e, List.getElem?_cons_succ, List.getElem?_cons_zero, bR_ok, g5, g6, List.length_cons, List.length_nil, Nat.reduceAdd, Nat.reduceLeDiff, if_true]
      have i1 : ixN (bars.map ls).length (a : Int) = some a := ixN_nat (by simpa using ha2)
      have i2 : ixN ((bars.map ls).set a (ls oth)).length (b : Int) = some b := ixN_nat (by simpa using hb3)
      have e1 : ((bars.set a oth).set b view).map ls = ((bars.map ls).set a (ls oth)).set b (ls view) := by rw [List.map_set, List.map_set]
      unfold sAsg
      rw [x1]
      unfold lls
      simp only [sE_ok, gT_e, List.length_cons, List.length_nil, Nat.reduceAdd, if_true, gsC_c]
      unfold gP
      simp only [List.getElem?_cons_succ, List.getElem?_cons_zero, eV_e, i1, Option.elim, List.set_cons_succ, List.set_cons_zero, gsC_c, i2, gsN_n, e1])]
    have x3 : ∀ sl, (e2 gAdd (bV 4) (eLst (aC (eV 11) (aC (e2 gAdd (e2 gAdd (eSl gSl (bV 0) (oN) (oS (eV 5))) (eLst (aC (eV 7) (aN)))) (eSl gSl (bV 0) (oS (eV 5)) (oN))) (aC (e2 gAdd (eSl gSl (bV 0) (oN) (oS (eV 5))) (eSl gSl (bV 0) (oS (e2 gAdd (bV 5) (eC (.int 1)))) (oN))) (aC (eLst (aC (eV 7) (aN))) (aN))))))) [.fz (lls bars), .fz (ls issues), .fz (s st), .fz (is n), .ow (.lst ds3), .fz (.int a), .fz (.int b), .fz (ls view), b8, .fz (ls (issues.filter p)), b10, .fz sl, .un] =
        ok (.lst (ds3 ++ [sl, lls (bars.take a ++ [view] ++ bars.drop a), lls (bars.take a ++ bars.drop (a + 1)), lls [view]])) := by
      intro sl
      have y1 : gAdd (lls (bars.take a)) (lls [view]) = ok (lls (bars.take a ++ [view])) := gAdd_lls _ _ (by simp; omega)
      have y2 : gAdd (lls (bars.take a ++ [view])) (lls (bars.drop a)) = ok (lls (bars.take a ++ [view] ++ bars.drop a)) := gAdd_lls _ _ (by simp; omega)
      have y3 : gAdd (lls (bars.take a)) (lls (bars.drop (a + 1))) = ok (lls (bars.take a ++ bars.drop (a + 1))) := gAdd_lls _ _ (by simp; omega)
      have y4 : (eLst (aC (eV 7) (aN))) [.fz (lls bars), .fz (ls issues), .fz (s st), .fz (is n), .ow (.lst ds3), .fz (.int a), .fz (.int b), .fz (ls view), b8, .fz (ls (issues.filter p)), b10, .fz sl, .un] = ok (lls [view]) := by
        simp only [eLst_e, aC_e, eV_e, aN_e, List.getElem?_cons_succ, List.getElem?_cons_zero, bR_ok, List.length_singleton, Nat.reduceLeDiff, if_true]
        rfl
      rw [e2_e, eLst_e, aC_e, aC_e, e2_e, e2_e, y4, aC_e, e2_e, aC_e, y4]
      simp only [bV_e, eSl_e, oN_e, oS_e, eV_e, eC_e, aN_e, e2_e, List.getElem?_cons_succ, List.getElem?_cons_zero, bR_ok, gSl_lls, gAdd_i, cutL_toN, cutL_fromN, cutL_fromS, y1, y2, y3, List.length_cons, List.length_nil, Nat.reduceAdd, Nat.reduceLeDiff, if_true]
      rw [gAdd_lst _ _ (by simp; omega)]
    refine ⟨ds3 ++ [lls ((bars.set a oth).set b view), lls (bars.take a ++ [view] ++ bars.drop a), lls (bars.take a ++ bars.drop (a + 1)), lls [view]], ?_, ?_⟩
    · simp only [sFrz, frz, List.getElem?_cons_succ, List.getElem?_cons_zero, List.set_cons_succ, List.set_cons_zero, sRet_e, x3, sE_ok, toR_rt]
    · intro d hd
      have smv := vws_sm hvw
      have smo := vws_sm hvo
      rcases List.mem_append.mp hd with h | h
      · exact v4 d h
      · simp only [List.mem_cons, List.not_mem_nil, or_false] at h
        rcases h with rfl | rfl | rfl | rfl
        · refine gva_lls _ (fun v hv => ?_) (by simp; omega)
          rcases List.mem_or_eq_of_mem_set hv with h | rfl
          · rcases List.mem_or_eq_of_mem_set h with h | rfl
            · exact hbs v h
            · exact smo
          · exact smv
        · refine gva_lls _ (fun v hv => ?_) (by simp; omega)
          rcases List.mem_append.mp hv with h | h
          · rcases List.mem_append.mp h with h | h
            · exact hbs v (List.mem_of_mem_take h)
            · rw [List.mem_singleton] at h; subst h; exact smv
          · exact hbs v (List.mem_of_mem_drop h)
        · refine gva_lls _ (fun v hv => ?_) (by simp; omega)
          rcases List.mem_append.mp hv with h | h
          · exact hbs v (List.mem_of_mem_take h)
          · exact hbs v (List.mem_of_mem_drop h)
        · refine gva_lls _ (fun v hv => ?_) (by simp)
          rw [List.mem_singleton] at hv; subst hv; exact smv
end DL

namespace DL
open PySem PySem.Spec L2
open PyProof.Rows hiding St

theorem forS_or {tg : FG} {body : FS} {α : Type} (enc : α → D) (P : En → Prop) (Q : D → Prop) : ∀ (xs : List α),
    (∀ a ∈ xs, ∀ e, P e → ∃ e1, tg (enc a) e = some e1 ∧ ((∃ d, body e1 = some (.rt d) ∧ Q d) ∨ ∃ e2, body e1 = some (.nx e2) ∧ P e2)) →
    ∀ e, P e → (∃ d, forS tg body (xs.map enc) e = some (.rt d) ∧ Q d) ∨ ∃ e', forS tg body (xs.map enc) e = some (.nx e') ∧ P e'
  | [], _, e, he => .inr ⟨e, rfl, he⟩
  | a :: xs, h, e, he => by
    obtain ⟨e1, h1, h2⟩ := h a (by simp) e he
    simp only [List.map_cons, forS, h1]
    rcases h2 with ⟨d, h2, h3⟩ | ⟨e2, h2, h3⟩
    · exact .inl ⟨d, by simp [h2], h3⟩
    · have ih := forS_or enc P Q xs (fun b hb => h b (by simp [hb])) e2 h3
      simpa [h2] using ih
/-! ### a strange name -/
theorem str_s (z : Str) : D.str z = s z.cps.toList := by
  cases z; unfold s; simp
theorem num_len : ∀ k : Nat, k < 1009 → (Str.ofString (toString ((k : Nat) : Int))).length ≤ 4 ∧ PyData.strOk (Str.ofString (toString ((k : Nat) : Int))) = true := by
  decide +kernel
theorem gStr_small (i : Int) (h0 : 0 ≤ i) (h1 : i < 1009) : ∃ w, gStr (.int i) = ok (s w) ∧ w.length ≤ 4 := by
  obtain ⟨k, rfl⟩ := Int.eq_ofNat_of_zero_le h0
  obtain ⟨hk, hk2⟩ := num_len k (by omega)
  refine ⟨(Str.ofString (toString ((k : Nat) : Int))).cps.toList, ?_, by
    have e : (Str.ofString (toString ((k : Nat) : Int))).cps.toList.length = (Str.ofString (toString ((k : Nat) : Int))).length := Array.length_toList
    omega⟩
  show (if _ then _ else _) = _
  rw [if_pos ⟨by omega, hk2⟩, ← str_s]
theorem c_stranger (issues : List Wd) (z : Int) : ∃ w, C__law_stranger [ls issues, .int z] = ok (s w) ∧ w.length ≤ 1000 := by
  have lz : (D.str "z") = s [122] := by rfl
  have key := forS_or (tg := gN 2) (body := (sSeq (sSet 3 (e2 gAdd (eC (.str "z")) (e1 gStr (e2 gMod (e2 gAdd (bV 1) (bV 2)) (eC (.int 1009)))))) (sIf (tV (e2 gNotIn (bV 3) (bV 0))) (sRet (eV 3)) (sNext)))) (fun k : Nat => .int k)
    (fun e => ∃ a b, e = [.fz (ls issues), .fz (.int z), a, b]) (fun d => ∃ w, d = s w ∧ w.length ≤ 1000) (List.range 41) (fun k _ e ⟨a, b, he⟩ => by
      subst he
      refine ⟨_, rfl, ?_⟩
      obtain ⟨w, g1, g2⟩ := gStr_small ((z + k) % 1009) (by omega) (by omega)
      have g3 : gAdd (s [122]) (s w) = ok (s (122 :: w)) := gAdd_s [122] w (by simp; omega)
      have st : (sSet 3 (e2 gAdd (eC (.str "z")) (e1 gStr (e2 gMod (e2 gAdd (bV 1) (bV 2)) (eC (.int 1009)))))) ([.fz (ls issues), .fz (.int z), a, b].set 2 (.fz (.int k))) = some (.nx [.fz (ls issues), .fz (.int z), .fz (.int k), .fz (s (122 :: w))]) := by
        simp [lz, g1, g3]
      rw [sSeq_nx st]
      by_cases q : (122 :: w) ∈ issues
      · exact .inr ⟨[.fz (ls issues), .fz (.int z), .fz (.int k), .fz (s (122 :: w))], by simp [q], _, _, rfl⟩
      · exact .inl ⟨_, by simp [q], 122 :: w, rfl, by simp; omega⟩)
    [.fz (ls issues), .fz (.int z), .un, .un] ⟨_, _, rfl⟩
  have hr : iR1 (eC (.int 41)) [.fz (ls issues), .fz (.int z), .un, .un] = ok ((List.range 41).map fun k : Nat => .int k) := iR1_n (n := 41) rfl (by omega)
  unfold C__law_stranger
  show ∃ w, toR (B__law_stranger [.fz (ls issues), .fz (.int z), .un, .un]) = ok (s w) ∧ _
  unfold B__law_stranger
  rw [sSeq_e, sFor_e, hr]
  simp only [sE_ok]
  rcases key with ⟨d, h1, w, rfl, h2⟩ | ⟨e', h1, _⟩
  · exact ⟨w, by rw [h1]; rfl, h2⟩
  · exact ⟨[122], by rw [h1]; simp [lz], by simp⟩
end DL

namespace DL
open PySem PySem.Spec L2
open PyProof.Rows hiding St

/-! ### a value equals itself -/
theorem deq_lst_refl {α : Type} (enc : α → D) (h : ∀ x, deq (enc x) (enc x) = true) (xs : List α) : deq (.lst (xs.map enc)) (.lst (xs.map enc)) = true := by
  unfold deq
  simp only [P, PyData.eqv]
  rw [eqvAll_map]
  refine ⟨rfl, fun z hz => ?_⟩
  have : z.1 = z.2 := by
    obtain ⟨i, h1, h2⟩ := List.mem_iff_getElem.mp hz
    rw [← h2]; simp
  rw [this]; exact h _
theorem deq_tup_refl {α : Type} (enc : α → D) (h : ∀ x, deq (enc x) (enc x) = true) (xs : List α) : deq (.tup (xs.map enc)) (.tup (xs.map enc)) = true := by
  have := deq_lst_refl enc h xs
  unfold deq at this ⊢
  simpa only [P, PyData.eqv] using this
theorem deq_it (x : It) : deq x.d x.d = true := by
  cases x with
  | w a => simp [It.d]
  | no => rfl
theorem deq_vw (x : Vw) : deq x.d x.d = true := by
  cases x with
  | l xs => exact deq_lst_refl It.d deq_it xs
  | t xs => exact deq_tup_refl It.d deq_it xs
  | a x => exact deq_it x
theorem gNe_self (v : Va) : gNe v.d v.d = ok (.bl false) := by
  have key : ∀ d : D, isE d = false → pl 8 d = true → deq d d = true → gNe d d = ok (.bl false) := fun d h1 h2 h3 => by simp [gNe, h1, h2, h3]
  cases v with
  | l vs => exact key _ rfl (pl_lst Vw.d 7 (pl_vw 6) vs) (deq_lst_refl Vw.d deq_vw vs)
  | t vs => exact key _ rfl (pl_tup Vw.d 7 (pl_vw 6) vs) (deq_tup_refl Vw.d deq_vw vs)
  | a x => exact key _ (by cases x <;> rfl) (pl_it 8 x) (deq_it x)
  | i n => simp [Va.d]
  | e => rfl
theorem gEq_bl (a b : Bool) : gEq (.bl a) (.bl b) = ok (.bl (a == b)) := by
  have h1 : isE (.bl a) = false := rfl
  have h2 : pl 8 (.bl a) = true := rfl
  have h3 : pl 8 (.bl b) = true := rfl
  unfold gEq
  rw [if_neg (by simp [h1]), if_pos ⟨h2, h3⟩, deq_bl]
theorem c_says (a b : Bool) : C__law_says [.bl a, .bl b] = ok (.bl (a == b)) := by
  simp [C__law_says, B__law_says, startE, gEq_bl]
/-! ### each value -/
def vBody2 : FS := (sSeq (sSet 12 (eV 11)) (sSeq (sIf (tU (e1 (gIs "list") (bV 11))) (sSet 12 (e1 gList (bV 11))) (sNext)) (sIf (fOr (fNot (tU (eCall C__law_says (aC (eCall C_is_barring (aC (e1 gList (bV 2)) (aC (eV 12) (aN)))) (aC (eCall C__law_due (aC (eV 2) (aC (eV 11) (aN)))) (aN)))))) (tV (e2 gNe (bV 12) (bV 11)))) (sRet (eC (.bl false))) (sNext))))
theorem v_step (issues : List Wd) (hA : Asc issues) (d : D) (hd : GVa d) (d0 d1 d3 d4 d5 d6 : D) (s7 s8 : Sl) (d9 d10 : D) (s12 s13 : Sl) :
    vBody2 [.fz d0, .fz d1, .fz (ls issues), .fz d3, .fz d4, .fz d5, .fz d6, s7, s8, .fz d9, .fz d10, .fz d, s12, s13] = some (.nx [.fz d0, .fz d1, .fz (ls issues), .fz d3, .fz d4, .fz d5, .fz d6, s7, s8, .fz d9, .fz d10, .fz d, .fz d, s13]) := by
  obtain ⟨v, rfl, h1, h2⟩ := hd
  have b1 := c_is_barring issues v h1 fun vs e => (h2 vs e).1
  have b2 := c_due issues hA v h1 h2
  rw [du_is] at b2
  have b3 := c_says (isB issues v) (isB issues v)
  have b4 := gNe_self v
  have gl : gList (ls issues) = ok (ls issues) := rfl
  unfold vBody2
  rw [sSeq_nx (e' := [.fz d0, .fz d1, .fz (ls issues), .fz d3, .fz d4, .fz d5, .fz d6, s7, s8, .fz d9, .fz d10, .fz v.d, .fz v.d, s13]) rfl]
  rw [sSeq_nx (e' := [.fz d0, .fz d1, .fz (ls issues), .fz d3, .fz d4, .fz d5, .fz d6, s7, s8, .fz d9, .fz d10, .fz v.d, .fz v.d, s13]) (by
    cases v with
    | l vs => rfl
    | t vs => rfl
    | a x => cases x <;> rfl
    | i n => rfl
    | e => rfl)]
  simp only [sIf_e, fOr_e, fNot_e, tU_e, tV_e, eCall_e, aC_e, aN_e, eV_e, bV_e, e1_e, e2_e, List.getElem?_cons_succ, List.getElem?_cons_zero, bR_ok, gl, b1, b2, b3, b4, beq_self_eq_true, tru_bl, Bool.not_true, Bool.false_eq_true, if_false, asB_bl, sE_ok, sNext_e]
theorem vl_vws {issues v : List Wd} (hI : ∀ i ∈ issues, Nm i) (hl : issues.length ≤ 6) (h0 : v ≠ []) (h : Vw1 issues v) : VwS v := by
  refine ⟨h0, by have := h.1.length_le; simp at this; omega, fun w hw => ?_⟩
  have h1 := vl_vd hI (h.2 w hw)
  refine ⟨h1.1, h1.2.1, fun c hc => ?_⟩
  rcases h.2 w hw with k | ⟨i, hi, rfl⟩
  · have := (hI w k).2.2 c hc; omega
  · rcases List.mem_cons.mp hc with rfl | hc
    · omega
    · have := (hI i hi).2.2 c hc; omega
def dBody : FS := (sSeq (sSet 8 (e2 gIx (bV 6) (e2 gMod (e2 gAdd (e2 gMul (e2 gIx (bV 1) (e2 gAdd (eC (.int 1)) (bV 7))) (eC (.int 7))) (bV 7)) (e1 gLen (bV 6))))) (sIf (tV (e2 gEq (eComp [13] (iA (bV 5)) (gN 13) (fOr (tU (eCall C__law_has (aC (eV 13) (aC (eV 8) (aN))))) (tU (eCall C__law_has (aC (eV 8) (aC (eV 13) (aN)))))) (eV 13)) (eLst (aN)))) (sSet 5 (eCall C__law_sort (aC (e2 gAdd (bV 5) (eLst (aC (eV 8) (aN)))) (aN)))) (sNext)))
theorem d_step (n : List Int) (hn : n.length = 40) (views : List (List Wd)) (hv : ∀ v ∈ views, VwS v) (h0 : 0 < views.length) (drawn : List (List Wd)) (hd : ∀ v ∈ drawn, VwS v) (hdl : drawn.length ≤ 20) (k : Nat) (hk : k < 8) (d0 d2 d3 d4 : D) (s8 s9 s10 s11 s12 s13 : Sl) :
    ∃ drawn' b8, dBody [.fz d0, .fz (is n), .fz d2, .fz d3, .fz d4, .fz (lls drawn), .fz (lls views), .fz (.int k), s8, s9, s10, s11, s12, s13] = some (.nx [.fz d0, .fz (is n), .fz d2, .fz d3, .fz d4, .fz (lls drawn'), .fz (lls views), .fz (.int k), b8, s9, s10, s11, s12, s13]) ∧ (∀ v ∈ drawn', VwS v) ∧ drawn'.length ≤ drawn.length + 1 := by
  have g1 := gIx_is n (1 + k) (1 + k) (by omega) (by omega)
  generalize n[1 + k]'(by omega) = z at *
  have m1 : 0 ≤ (z * 7 + k) % (views.length : Int) := Int.emod_nonneg _ (by omega)
  have m2 : (z * 7 + k) % (views.length : Int) < views.length := Int.emod_lt_of_pos _ (by omega)
  obtain ⟨j, hj⟩ := Int.eq_ofNat_of_zero_le m1
  have hj2 : j < views.length := by omega
  have g2 : gMod (.int (z * 7 + k)) (.int views.length) = ok (.int j) := by rw [gMod_i _ _ (by omega), hj]
  have g3 : gIx (lls views) (.int j) = ok (ls (views.getD j [])) := gIx_map ls views [] j hj2
  have hvw := hv _ (getD_mem views j [] hj2)
  generalize views.getD j [] = view at *
  have g4 : gMul (.int z) (.int 7) = ok (.int (z * 7)) := gMul_r _ _ (by decide)
  unfold dBody
  have st : (sSet 8 (e2 gIx (bV 6) (e2 gMod (e2 gAdd (e2 gMul (e2 gIx (bV 1) (e2 gAdd (eC (.int 1)) (bV 7))) (eC (.int 7))) (bV 7)) (e1 gLen (bV 6))))) [.fz d0, .fz (is n), .fz d2, .fz d3, .fz d4, .fz (lls drawn), .fz (lls views), .fz (.int k), s8, s9, s10, s11, s12, s13] = some (.nx [.fz d0, .fz (is n), .fz d2, .fz d3, .fz d4, .fz (lls drawn), .fz (lls views), .fz (.int k), .fz (ls view), s9, s10, s11, s12, s13]) := by
    simp only [sSet_e, e2_e, e1_e, bV_e, eC_e, List.getElem?_cons_succ, List.getElem?_cons_zero, bR_ok, gAdd_i, g1, g4, gLen_lls, g2, g3, sE_ok, List.set_cons_succ, List.set_cons_zero]
  have cc := eComp_map (own := [13]) (it := iA (bV 5)) (tg := gN 13) (cond := (fOr (tU (eCall C__law_has (aC (eV 13) (aC (eV 8) (aN))))) (tU (eCall C__law_has (aC (eV 8) (aC (eV 13) (aN))))))) (elt := eV 13) (e := [.fz d0, .fz (is n), .fz d2, .fz d3, .fz d4, .fz (lls drawn), .fz (lls views), .fz (.int k), .fz (ls view), s9, s10, s11, s12, s13])
    ls (fun one => hasB one view || hasB view one) ls drawn (by simp [lls]) fun one h => ⟨_, rfl, by
      have c1 := c_has one view
      have c2 := c_has view one
      cases q : hasB one view <;> rw [q] at c1 <;> simp [c1, c2], fun _ => by simp⟩
  have ce := gEq_lls0 (drawn.filter fun one => hasB one view || hasB view one)
  unfold lls at ce
  have hc : (tV (e2 gEq (eComp [13] (iA (bV 5)) (gN 13) (fOr (tU (eCall C__law_has (aC (eV 13) (aC (eV 8) (aN))))) (tU (eCall C__law_has (aC (eV 8) (aC (eV 13) (aN)))))) (eV 13)) (eLst (aN)))) [.fz d0, .fz (is n), .fz d2, .fz d3, .fz d4, .fz (lls drawn), .fz (lls views), .fz (.int k), .fz (ls view), s9, s10, s11, s12, s13] = ok (drawn.filter fun one => hasB one view || hasB view one).isEmpty := by
    simp only [tV_e, e2_e, cc, bR_ok, eLst_e, aN_e, List.length_nil, Nat.zero_le, if_true, ce, asB_bl]
  by_cases q : (drawn.filter fun one => hasB one view || hasB view one).isEmpty = true
  · have g5 : gAdd (lls drawn) (lls [view]) = ok (lls (drawn ++ [view])) := gAdd_lls _ _ (by simp; omega)
    have hm : ∀ v ∈ drawn ++ [view], VwS v := fun v h => by
      rcases List.mem_append.mp h with h | h
      · exact hd v h
      · rw [List.mem_singleton] at h; subst h; exact hvw
    have g6 := c_sort (drawn ++ [view]) (fun v h w hw => ((hm v h).2.2 w hw).1) (by simp; omega)
    refine ⟨sortT encP (drawn ++ [view]), .fz (ls view), ?_, fun v h => hm v ((sortT_mem encP _ v).mp h), by rw [sortT_len]; simp⟩
    rw [sSeq_nx st, sIf_e, hc, q]
    simp only [sE_ok, if_true]
    have x1 : (eLst (aC (eV 8) (aN))) [.fz d0, .fz (is n), .fz d2, .fz d3, .fz d4, .fz (lls drawn), .fz (lls views), .fz (.int k), .fz (ls view), s9, s10, s11, s12, s13] = ok (lls [view]) := by
      simp only [eLst_e, aC_e, eV_e, aN_e, List.getElem?_cons_succ, List.getElem?_cons_zero, bR_ok, List.length_singleton, Nat.reduceLeDiff, if_true]
      rfl
    rw [sSet_e, eCall_e, aC_e, e2_e, x1]
    simp only [bV_e, List.getElem?_cons_succ, List.getElem?_cons_zero, bR_ok, g5, aN_e, g6, sE_ok, List.set_cons_succ, List.set_cons_zero]
  · simp only [Bool.not_eq_true] at q
    refine ⟨drawn, .fz (ls view), ?_, hd, by omega⟩
    rw [sSeq_nx st, sIf_e, hc, q]
    rfl
end DL

namespace DL
open PySem PySem.Spec L2
open PyProof.Rows hiding St

theorem va_ok {vs : List (List Wd)} (h : ∀ v ∈ vs, VwS v) : (va vs).ok := fun x hx => by
  obtain ⟨v, hv, rfl⟩ := List.mem_map.mp hx
  intro y hy
  obtain ⟨w, hw, rfl⟩ := List.mem_map.mp hy
  exact ((h v hv).2.2 w hw).1.2
theorem cutL_take {α : Type} (xs : List α) (k : Nat) : cutL xs none (some (k : Int)) = xs.take k := cutL_to xs k
theorem law77 (ns : List Int) : C_law [.scr ns] = ok (.bl true) := by
  obtain ⟨n, n1, n2, n3⟩ := c_numbers ns 0 40 (by omega)
  obtain ⟨issues, ops, a1, hI, hA, hi1, hi6, ho, ho0, hol⟩ := c_agenda ns 1 6 (by omega) (by omega)
  have hnd : issues.Nodup := hA.imp fun {a b} h z => by subst z; exact lt_irr _ h
  obtain ⟨kw, kvs, k1, k2⟩ := c_hanging ops (fun o h => by have := (ho o h).1; omega) hol
  obtain ⟨rest, r1, r2, r3, r4⟩ := c_views issues hI hi6 hnd
  have rl : rest.length ≤ 728 := by
    have : 3 ^ issues.length ≤ 3 ^ 6 := Nat.pow_le_pow_right (by omega) hi6
    omega
  have r0 : 0 < rest.length := by
    have : 3 ^ 1 ≤ 3 ^ issues.length := Nat.pow_le_pow_right (by omega) hi1
    omega
  have hvw : ∀ v ∈ [] :: rest, Vw1 issues v := fun v h => by
    rcases List.mem_cons.mp h with rfl | h
    · exact ⟨by simp, by simp⟩
    · exact (r2 v h).2
  have l1 := c_least issues hI hi6 kw kvs ([] :: rest) r1 hvw (by simp; omega)
  have hres : ∀ v ∈ rest, VwS v := fun v h => vl_vws hI hi6 (r2 v h).1 (r2 v h).2
  have hnil : ([] : List Wd) ∈ kw := by
    obtain ⟨o, ho⟩ := List.exists_mem_of_ne_nil ops ho0
    exact (k2 []).mpr ⟨o, ho, List.nil_sublist o⟩
  generalize hL : sortT encP (([] :: rest).filter (leastB kw)) = L at *
  have hLm : ∀ v ∈ L, v ∈ rest ∧ leastB kw v = true := fun v h => by
    rw [← hL, sortT_mem] at h
    have h := List.mem_filter.mp h
    refine ⟨?_, h.2⟩
    rcases List.mem_cons.mp h.1 with rfl | h1
    · have := h.2
      simp [leastB, hnil] at this
    · exact h1
  have hLl : L.length ≤ 729 := by
    rw [← hL, sortT_len]
    have := List.length_filter_le (leastB kw) ([] :: rest)
    simp only [List.length_cons] at this
    omega
  have hLn : L.Nodup := by
    rw [← hL, (sortT_perm encP _).nodup_iff]
    exact r3.filter _
  have hLp : L.Pairwise (fun a b => dlt (encP b) (encP a) = false) := by rw [← hL]; exact sortT_pw encP _
  have hLs : ∀ v ∈ L, VwS v := fun v h => hres v (hLm v h).1
  have hbar : isB issues (va L) = true := least_bar issues hI hA L (fun v h => r2 v (hLm v h).1) hLn hLp fun v hv o ho hne =>
    least_min issues hA kw ops k2 v o (r2 v (hLm v hv).1).2 (r2 o (hLm o ho).1).2 (hLm v hv).2 (hLm o ho).2 hne
  -- the steps
  unfold C_law
  show toR (B_law [.fz (.scr ns), .un, .un, .un, .un, .un, .un, .un, .un, .un, .un, .un, .un, .un]) = _
  unfold B_law
  replace n1 : C__law_numbers [.scr ns, .int 0, .int 40] = ok (is n) := n1
  replace a1 : C__law_agenda [.scr ns, .int 1, .int 6] = ok (.tup [ls issues, lls ops]) := a1
  rw [sSeq_nx (e' := [.fz (.scr ns), .fz (is n), .un, .un, .un, .un, .un, .un, .un, .un, .un, .un, .un, .un]) (by
    simp only [sSet_e, eCall_e, aC_e, aN_e, eV_e, eC_e, List.getElem?_cons_zero, bR_ok, n1, sE_ok, List.set_cons_succ, List.set_cons_zero])]
  rw [sSeq_nx (e' := [.fz (.scr ns), .fz (is n), .fz (ls issues), .fz (lls ops), .un, .un, .un, .un, .un, .un, .un, .un, .un, .un]) (by
    unfold sAsg
    simp only [eCall_e, aC_e, aN_e, eV_e, eC_e, List.getElem?_cons_zero, bR_ok, a1, sE_ok]
    rfl)]
  rw [sSeq_nx (e' := [.fz (.scr ns), .fz (is n), .fz (ls issues), .fz (lls ops), .fz (lls L), .un, .un, .un, .un, .un, .un, .un, .un, .un]) (by
    simp only [sSet_e, eCall_e, aC_e, aN_e, eV_e, List.getElem?_cons_succ, List.getElem?_cons_zero, bR_ok, k1, l1, sE_ok, List.set_cons_succ, List.set_cons_zero])]
  rw [sSeq_nx (e' := [.fz (.scr ns), .fz (is n), .fz (ls issues), .fz (lls ops), .fz (lls L), .fz (lls []), .un, .un, .un, .un, .un, .un, .un, .un]) rfl]
  have cv := eComp_all (own := [8]) (it := iA (eCall C__law_views (aC (eV 2) (aN)))) (tg := gN 8) (elt := e1 gList (bV 8)) (e := [.fz (.scr ns), .fz (is n), .fz (ls issues), .fz (lls ops), .fz (lls L), .fz (lls []), .un, .un, .un, .un, .un, .un, .un, .un])
    tw ls ([] :: rest) (by simp only [iA_e, eCall_e, aC_e, aN_e, eV_e, List.getElem?_cons_succ, List.getElem?_cons_zero, bR_ok, r1]; rfl) fun v _ => ⟨_, rfl, rfl⟩
  rw [sSeq_nx (e' := [.fz (.scr ns), .fz (is n), .fz (ls issues), .fz (lls ops), .fz (lls L), .fz (lls []), .fz (lls rest), .un, .un, .un, .un, .un, .un, .un]) (by
    rw [sSet_e, eSl_e, cv]
    simp only [bR_ok, oS_e, eC_e, oN_e, gSl_lst, cutL_1, sE_ok, List.set_cons_succ, List.set_cons_zero]
    rfl)]
  -- the drawn views
  have g0 := gIx_is n 0 0 rfl (by omega)
  have g10 := gIx_is n 10 10 rfl (by omega)
  generalize n[0]'(by omega) = z0 at *
  generalize n[10]'(by omega) = z10 at *
  obtain ⟨c, hc, hc2⟩ : ∃ c : Nat, z0 % 8 = (c : Int) ∧ c ≤ 7 := ⟨(z0 % 8).toNat, by omega, by omega⟩
  obtain ⟨e', f1, drawn, b7, b8, rfl, d1, d2⟩ := forS_range (tg := gN 7) (body := dBody)
    (fun j e => ∃ drawn b7 b8, e = [.fz (.scr ns), .fz (is n), .fz (ls issues), .fz (lls ops), .fz (lls L), .fz (lls drawn), .fz (lls rest), b7, b8, .un, .un, .un, .un, .un] ∧ (∀ v ∈ drawn, VwS v) ∧ drawn.length ≤ j) c
    (fun j hj e ⟨drawn, b7, b8, he, h1, h2⟩ => by
      subst he
      obtain ⟨drawn', c8, h3, h4, h5⟩ := d_step n n2 rest hres r0 drawn h1 (by omega) j (by omega) (.scr ns) (ls issues) (lls ops) (lls L) b8 .un .un .un .un .un
      exact ⟨_, rfl, _, .inl h3, drawn', _, _, rfl, h4, by omega⟩)
    [.fz (.scr ns), .fz (is n), .fz (ls issues), .fz (lls ops), .fz (lls L), .fz (lls []), .fz (lls rest), .un, .un, .un, .un, .un, .un, .un] ⟨[], _, _, rfl, by simp, by simp⟩
  have hr : iR1 (e2 gMod (e2 gIx (bV 1) (eC (.int 0))) (eC (.int 8))) [.fz (.scr ns), .fz (is n), .fz (ls issues), .fz (lls ops), .fz (lls L), .fz (lls []), .fz (lls rest), .un, .un, .un, .un, .un, .un, .un] = ok ((List.range c).map fun k : Nat => .int k) :=
    iR1_n' (n := z0 % 8) (by simp only [e2_e, bV_e, eC_e, List.getElem?_cons_succ, List.getElem?_cons_zero, bR_ok, g0]; exact gMod_i _ _ (by omega)) hc (by omega)
  unfold dBody at f1
  rw [sSeq_nx (by rw [sFor_e, hr]; exact f1)]
  obtain ⟨st, s1, s2⟩ := c_stranger issues z10
  rw [sSeq_nx (e' := [.fz (.scr ns), .fz (is n), .fz (ls issues), .fz (lls ops), .fz (lls L), .fz (lls drawn), .fz (lls rest), b7, b8, .fz (s st), .un, .un, .un, .un]) (by
    simp only [sSet_e, eCall_e, aC_e, aN_e, eV_e, e2_e, bV_e, eC_e, List.getElem?_cons_succ, List.getElem?_cons_zero, bR_ok, g10, s1, sE_ok, List.set_cons_succ, List.set_cons_zero])]
  -- the values
  have hcut : ∃ m : List Int, gSl (is n) (some 11) (some 14) = ok (is m) ∧ m.length = 3 := by
    refine ⟨cutL n (some 11) (some 14), ?_, ?_⟩
    · unfold is; rw [gSl_lst, cutL_map]
    · unfold cutL
      have e1 : HT.sIx n.length 0 (some 11) = min 11 n.length := HT.sIx_nat n.length 0 11
      have e2 : HT.sIx n.length n.length (some 14) = min 14 n.length := HT.sIx_nat n.length n.length 14
      rw [e1, e2, List.length_take, List.length_drop, n2]
      omega
  obtain ⟨m, hm, hm3⟩ := hcut
  obtain ⟨e2', f2, b10, b11, b12, rfl⟩ := forS_all (tg := gN 10) (body := sFor (iA (eCall C__law_bent (aC (eV 10) (aC (eV 2) (aC (eV 9) (aC (eSl gSl (bV 1) (oS (eC (.int 11))) (oS (eC (.int 14)))) (aN))))))) (gN 11) vBody2) lls
    (fun _ e => ∃ b10 b11 b12, e = [.fz (.scr ns), .fz (is n), .fz (ls issues), .fz (lls ops), .fz (lls L), .fz (lls drawn), .fz (lls rest), b7, b8, .fz (s st), b10, b11, b12, .un]) [L.take 16, drawn, []]
    (fun bars r e hb ⟨b10, b11, b12, he⟩ => by
      subst he
      have hbs : (∀ v ∈ bars, VwS v) ∧ bars.length ≤ 40 := by
        simp only [List.mem_cons, List.not_mem_nil, or_false] at hb
        rcases hb with rfl | rfl | rfl
        · exact ⟨fun v h => hLs v (List.mem_of_mem_take h), by simp; omega⟩
        · exact ⟨d1, by omega⟩
        · exact ⟨by simp, by simp⟩
      obtain ⟨ds, t1, t2⟩ := c_bent bars hbs.1 hbs.2 issues hI (by omega) st s2 m hm3
      obtain ⟨e3, f3, c11, c12, rfl⟩ := forS_all (tg := gN 11) (body := vBody2) (fun d : D => d) (fun _ e => ∃ c11 c12, e = [.fz (.scr ns), .fz (is n), .fz (ls issues), .fz (lls ops), .fz (lls L), .fz (lls drawn), .fz (lls rest), b7, b8, .fz (s st), .fz (lls bars), c11, c12, .un]) ds
        (fun d r e hd ⟨c11, c12, he⟩ => by
          subst he
          exact ⟨_, rfl, _, .inl (v_step issues hA d (t2 d hd) (.scr ns) (is n) (lls ops) (lls L) (lls drawn) (lls rest) b7 b8 (s st) (lls bars) c12 .un), _, _, rfl⟩)
        [.fz (.scr ns), .fz (is n), .fz (ls issues), .fz (lls ops), .fz (lls L), .fz (lls drawn), .fz (lls rest), b7, b8, .fz (s st), .fz (lls bars), b11, b12, .un] ⟨_, _, rfl⟩
      rw [List.map_id'' (fun _ => rfl)] at f3
      refine ⟨_, rfl, [.fz (.scr ns), .fz (is n), .fz (ls issues), .fz (lls ops), .fz (lls L), .fz (lls drawn), .fz (lls rest), b7, b8, .fz (s st), .fz (lls bars), c11, c12, .un], .inl ?_, _, _, _, rfl⟩
      show sFor _ _ _ [.fz (.scr ns), .fz (is n), .fz (ls issues), .fz (lls ops), .fz (lls L), .fz (lls drawn), .fz (lls rest), b7, b8, .fz (s st), .fz (lls bars), b11, b12, .un] = _
      have hit : iA (eCall C__law_bent (aC (eV 10) (aC (eV 2) (aC (eV 9) (aC (eSl gSl (bV 1) (oS (eC (.int 11))) (oS (eC (.int 14)))) (aN)))))) [.fz (.scr ns), .fz (is n), .fz (ls issues), .fz (lls ops), .fz (lls L), .fz (lls drawn), .fz (lls rest), b7, b8, .fz (s st), .fz (lls bars), b11, b12, .un] = ok ds := by
        simp only [iA_e, eCall_e, aC_e, aN_e, eV_e, eSl_e, bV_e, oS_e, eC_e, List.getElem?_cons_succ, List.getElem?_cons_zero, bR_ok, hm, t1, items_lst]
      rw [sFor_e, hit]
      exact f3)
    [.fz (.scr ns), .fz (is n), .fz (ls issues), .fz (lls ops), .fz (lls L), .fz (lls drawn), .fz (lls rest), b7, b8, .fz (s st), .un, .un, .un, .un] ⟨_, _, _, rfl⟩
  unfold vBody2 at f2
  have g16 : gSl (lls L) none (some 16) = ok (lls (L.take 16)) := by
    rw [gSl_lls]
    exact congrArg (fun x => ok (lls x)) (cutL_take L 16)
  rw [sSeq_nx (e' := [.fz (.scr ns), .fz (is n), .fz (ls issues), .fz (lls ops), .fz (lls L), .fz (lls drawn), .fz (lls rest), b7, b8, .fz (s st), b10, b11, b12, .un]) (by
    have hit : iA (eLst (aC (eSl gSl (bV 4) (oN) (oS (eC (.int 16)))) (aC (eV 5) (aC (eLst (aN)) (aN))))) [.fz (.scr ns), .fz (is n), .fz (ls issues), .fz (lls ops), .fz (lls L), .fz (lls drawn), .fz (lls rest), b7, b8, .fz (s st), .un, .un, .un, .un] = ok ([L.take 16, drawn, []].map lls) := by
      simp only [iA_e, eLst_e, aC_e, aN_e, eV_e, eSl_e, bV_e, oN_e, oS_e, eC_e, List.getElem?_cons_succ, List.getElem?_cons_zero, bR_ok, g16, List.length_nil, Nat.zero_le, if_true, List.length_cons, Nat.reduceAdd, Nat.reduceLeDiff, items_lst]
      rfl
    rw [sFor_e, hit]
    exact f2)]
  -- the last one
  have bl := c_is_barring issues (va L) (va_ok hLs) (fun vs e => by cases e; simp; omega)
  rw [va_d, hbar] at bl
  have bs := c_says true true
  simp only [sRet_e, eCall_e, aC_e, aN_e, eV_e, eC_e, List.getElem?_cons_succ, List.getElem?_cons_zero, bR_ok, bl, bs, beq_self_eq_true, sE_ok, toR_rt]
end DL

namespace DL
namespace K77
open PySem PySem.Spec L2
open PyProof.Rows hiding St
def topS (i : Nat) : Stmt := PySem.Challenge.pw_panelsagree_k77_judge_of_barrings.main.body.getD i (.Pass ⟨0, 0, 0, 0⟩)
theorem hu65 {k : Nat} {A : Around} (r : Room k A) : A.units + 65 < cLine := by have := r.un; omega
section
variable {P : Program} {w : World} {K : PySem.W.Frag} {mg : Str → Option Value} {base : Heap}

abbrev S_is_yes : Stmt := topS 2
theorem sc_is_yes : FnScope ["verdict"] ["verdict"] (defScope S_is_yes) := ⟨rfl, rfl, rfl, by decide +kernel, rfl, by decide +kernel, by decide +kernel⟩
theorem ok_is_yes (ca : Nat → Addr) (g_NO : ∃ t, mg "NO" = some (.str "!" t)) {f : Addr} {fd : FuncData} (F : Fun K "is_yes" "is_yes" S_is_yes f fd) : FnOk P w K mg base (L2.CX P w) 1 f fd ["verdict"] (spD ⟨K, ca⟩ 1 C_is_yes) :=
  fn_D (k := 0) F sc_is_yes fun cdv A outer s H E hr => by
    have nd := (sc_is_yes).nd
    have hK : K = K := rfl
    have hu := hr.units
    have hu1 := hu65 hr
    have tk := takes_of (X := cxOf (L2.CX P w) P w K mg base ["verdict"] "is_yes" (defScope S_is_yes) f cdv A outer s H E) rfl rfl rfl rfl
    exact dss_one (ds_ret (de_cmp (od_ne hK) (op_neA hu) (be (de_ix hK hu (db_var (pv 0)) (be (de_int)))) (be (de_gs (by rfl) (Exists.choose_spec g_NO) ⟨_, rfl⟩ (by decide +kernel))) (by rfl)))
abbrev S_issue_of : Stmt := topS 3
theorem sc_issue_of : FnScope ["verdict"] ["verdict"] (defScope S_issue_of) := ⟨rfl, rfl, rfl, by decide +kernel, rfl, by decide +kernel, by decide +kernel⟩
theorem ok_issue_of (ca : Nat → Addr) (c_is_yes : Cal P w K mg base "is_yes" 1 1 (spD ⟨K, ca⟩ 1 C_is_yes)) {f : Addr} {fd : FuncData} (F : Fun K "issue_of" "issue_of" S_issue_of f fd) : FnOk P w K mg base (L2.CX P w) 2 f fd ["verdict"] (spD ⟨K, ca⟩ 1 C_issue_of) :=
  fn_D (k := 1) F sc_issue_of fun cdv A outer s H E hr => by
    have nd := (sc_issue_of).nd
    have hK : K = K := rfl
    have hu := hr.units
    have hu1 := hu65 hr
    have tk := takes_of (X := cxOf (L2.CX P w) P w K mg base ["verdict"] "issue_of" (defScope S_issue_of) f cdv A outer s H E) rfl rfl rfl rfl
    exact dss_cons (ds_if (dt_tru hK (be (de_call c_is_yes (hr.mono (by decide)) tk (by rfl) (da_cons (de_var (pv 0)) (da_nil)) (.cons LenA.nil)))) (dss_one (ds_ret (de_var (pv 0)))) (dss_nil)) (dss_one (ds_ret (de_slice hK (db_var (pv 0)) (do_some (de_int)) (do_none))))
abbrev S_place_of : Stmt := topS 4
theorem sc_place_of : FnScope ["verdict"] ["verdict"] (defScope S_place_of) := ⟨rfl, rfl, rfl, by decide +kernel, rfl, by decide +kernel, by decide +kernel⟩
theorem ok_place_of (ca : Nat → Addr) (c_issue_of : Cal P w K mg base "issue_of" 2 1 (spD ⟨K, ca⟩ 1 C_issue_of)) (c_is_yes : Cal P w K mg base "is_yes" 1 1 (spD ⟨K, ca⟩ 1 C_is_yes)) {f : Addr} {fd : FuncData} (F : Fun K "place_of" "place_of" S_place_of f fd) : FnOk P w K mg base (L2.CX P w) 3 f fd ["verdict"] (spD ⟨K, ca⟩ 1 C_place_of) :=
  fn_D (k := 2) F sc_place_of fun cdv A outer s H E hr => by
    have nd := (sc_place_of).nd
    have hK : K = K := rfl
    have hu := hr.units
    have hu1 := hu65 hr
    have tk := takes_of (X := cxOf (L2.CX P w) P w K mg base ["verdict"] "place_of" (defScope S_place_of) f cdv A outer s H E) rfl rfl rfl rfl
    exact dss_one (ds_ret (de_tup (da_cons (de_call c_issue_of (hr.mono (by decide)) tk (by rfl) (da_cons (de_var (pv 0)) (da_nil)) (.cons LenA.nil)) (da_cons (de_not hK (be (de_call c_is_yes (hr.mono (by decide)) tk (by rfl) (da_cons (de_var (pv 0)) (da_nil)) (.cons LenA.nil)))) (da_nil)))))
abbrev S_order_of : Stmt := topS 5
theorem sc_order_of : FnScope ["view", "verdict"] ["view"] (defScope S_order_of) := ⟨rfl, rfl, rfl, by decide +kernel, rfl, by decide +kernel, by decide +kernel⟩
theorem ok_order_of (ca : Nat → Addr) (c_place_of : Cal P w K mg base "place_of" 3 1 (spD ⟨K, ca⟩ 1 C_place_of)) {f : Addr} {fd : FuncData} (F : Fun K "order_of" "order_of" S_order_of f fd) : FnOk P w K mg base (L2.CX P w) 4 f fd ["view"] (spF ⟨K, ca⟩ 1 C_order_of) :=
  fn_F (k := 3) F sc_order_of fun cdv A outer s H E hr => by
    have nd := (sc_order_of).nd
    have hK : K = K := rfl
    have hu := hr.units
    have hu1 := hu65 hr
    have tk := takes_of (X := cxOf (L2.CX P w) P w K mg base ["view", "verdict"] "order_of" (defScope S_order_of) f cdv A outer s H E) rfl rfl rfl rfl
    exact dss_one (ds_retF (df_comp (ow := [("verdict", 1)]) rfl nd (dib_all hK (db_var (pv 0))) (blkOk_by (by kernel_rfl)) (fun _ _ _ _ _ => dgo_name nd rfl (by first | exact .inl rfl | exact .inr rfl) (by decide)) (fun _ _ _ _ _ => dts_nil) (fun _ _ _ _ _ => de_call c_place_of (hr.mono (by decide)) takesN (by rfl) (da_cons (de_var (pv 1)) (da_nil)) (.cons LenA.nil))))
abbrev S_holds : Stmt := topS 6
theorem sc_holds : FnScope ["view", "other", "verdict"] ["view", "other"] (defScope S_holds) := ⟨rfl, rfl, rfl, by decide +kernel, rfl, by decide +kernel, by decide +kernel⟩
theorem ok_holds (ca : Nat → Addr) (z_all : mg "all" = none) {f : Addr} {fd : FuncData} (F : Fun K "holds" "holds" S_holds f fd) : FnOk P w K mg base (L2.CX P w) 1 f fd ["view", "other"] (spD ⟨K, ca⟩ 2 C_holds) :=
  fn_D (k := 0) F sc_holds fun cdv A outer s H E hr => by
    have nd := (sc_holds).nd
    have hK : K = K := rfl
    have hu := hr.units
    have hu1 := hu65 hr
    have tk := takes_of (X := cxOf (L2.CX P w) P w K mg base ["view", "other", "verdict"] "holds" (defScope S_holds) f cdv A outer s H E) rfl rfl rfl rfl
    exact dss_one (ds_ret (de_b1 (cd_all) (cr_all rfl) (by rfl) z_all rfl (be (ef (df_comp (ow := [("verdict", 2)]) rfl nd (dib_all hK (db_var (pv 1))) (blkOk_by (by kernel_rfl)) (fun _ _ _ _ _ => dgo_name nd rfl (by first | exact .inl rfl | exact .inr rfl) (by decide)) (fun _ _ _ _ _ => dts_nil) (fun _ _ _ _ _ => de_cmp (od_in hK) (op_inA hu1) (db_var (pv 2)) (db_var (pv 0)) (by rfl)))))))
abbrev S_is_ascending : Stmt := topS 8
theorem sc_is_ascending : FnScope ["values", "before", "after"] ["values"] (defScope S_is_ascending) := ⟨rfl, rfl, rfl, by decide +kernel, rfl, by decide +kernel, by decide +kernel⟩
theorem ok_is_ascending (ca : Nat → Addr) (z_all : mg "all" = none) (z_zip : mg "zip" = none) {f : Addr} {fd : FuncData} (F : Fun K "is_ascending" "is_ascending" S_is_ascending f fd) : FnOk P w K mg base (L2.CX P w) 1 f fd ["values"] (spD ⟨K, ca⟩ 1 C_is_ascending) :=
  fn_D (k := 0) F sc_is_ascending fun cdv A outer s H E hr => by
    have nd := (sc_is_ascending).nd
    have hK : K = K := rfl
    have hu := hr.units
    have hu1 := hu65 hr
    have tk := takes_of (X := cxOf (L2.CX P w) P w K mg base ["values", "before", "after"] "is_ascending" (defScope S_is_ascending) f cdv A outer s H E) rfl rfl rfl rfl
    exact dss_one (ds_ret (de_b1 (cd_all) (cr_all rfl) (by rfl) z_all rfl (be (ef (df_comp (ow := [("before", 1), ("after", 2)]) rfl nd (ib (di_zip hK (de_var (pv 0)) (de_slice hK (db_var (pv 0)) (do_some (de_int)) (do_none)) (by rfl) z_zip)) (blkOk_by (by kernel_rfl)) (fun _ _ _ _ _ => dgo_tup hK rfl (dgso_cons (dgo_name nd rfl (by first | exact .inl rfl | exact .inr rfl) (by decide)) (dgso_cons (dgo_name nd rfl (by first | exact .inl rfl | exact .inr rfl) (by decide)) (dgso_nil)))) (fun _ _ _ _ _ => dts_nil) (fun _ _ _ _ _ => de_cmp (od_lt hK) (op_ltA hu) (db_var (pv 1)) (db_var (pv 2)) (by rfl)))))))
abbrev S_is_verdict : Stmt := topS 10
theorem sc_is_verdict : FnScope ["issues", "value"] ["issues", "value"] (defScope S_is_verdict) := ⟨rfl, rfl, rfl, by decide +kernel, rfl, by decide +kernel, by decide +kernel⟩
theorem ok_is_verdict (ca : Nat → Addr) (z_isinstance : mg "isinstance" = none) (z_str : mg "str" = none) (c_issue_of : Cal P w K mg base "issue_of" 2 1 (spD ⟨K, ca⟩ 1 C_issue_of)) {f : Addr} {fd : FuncData} (F : Fun K "is_verdict" "is_verdict" S_is_verdict f fd) : FnOk P w K mg base (L2.CX P w) 3 f fd ["issues", "value"] (spD ⟨K, ca⟩ 2 C_is_verdict) :=
  fn_D (k := 2) F sc_is_verdict fun cdv A outer s H E hr => by
    have nd := (sc_is_verdict).nd
    have hK : K = K := rfl
    have hu := hr.units
    have hu1 := hu65 hr
    have tk := takes_of (X := cxOf (L2.CX P w) P w K mg base ["issues", "value"] "is_verdict" (defScope S_is_verdict) f cdv A outer s H E) rfl rfl rfl rfl
    exact dss_cons (ds_if (dt_w (dw_or (dt_not (dt_tru hK (be (de_isT (t := "str") (by rfl) z_isinstance (by decide +kernel) (db_var (pv 1)) (pe_tyn (by rfl) z_str rfl))))) (dw_or1 (dt_not (dt_tru hK (db_var (pv 1))))))) (dss_one (ds_ret (de_bl))) (dss_nil)) (dss_one (ds_ret (de_cmp (od_in hK) (op_inA hu1) (be (de_call c_issue_of (hr.mono (by decide)) tk (by rfl) (da_cons (de_var (pv 1)) (da_nil)) (.cons LenA.nil))) (db_var (pv 0)) (by rfl))))
abbrev S_is_view_of : Stmt := topS 11
theorem sc_is_view_of : FnScope ["issues", "value", "verdict"] ["issues", "value"] (defScope S_is_view_of) := ⟨rfl, rfl, rfl, by decide +kernel, rfl, by decide +kernel, by decide +kernel⟩
theorem ok_is_view_of (ca : Nat → Addr) (z_isinstance : mg "isinstance" = none) (z_list : mg "list" = none) (z_all : mg "all" = none) (c_is_verdict : Cal P w K mg base "is_verdict" 3 2 (spD ⟨K, ca⟩ 2 C_is_verdict)) (c_issue_of : Cal P w K mg base "issue_of" 2 1 (spD ⟨K, ca⟩ 1 C_issue_of)) (c_is_ascending : Cal P w K mg base "is_ascending" 1 1 (spD ⟨K, ca⟩ 1 C_is_ascending)) {f : Addr} {fd : FuncData} (F : Fun K "is_view_of" "is_view_of" S_is_view_of f fd) : FnOk P w K mg base (L2.CX P w) 4 f fd ["issues", "value"] (spD ⟨K, ca⟩ 2 C_is_view_of) :=
  fn_D (k := 3) F sc_is_view_of fun cdv A outer s H E hr => by
    have nd := (sc_is_view_of).nd
    have hK : K = K := rfl
    have hu := hr.units
    have hu1 := hu65 hr
    have tk := takes_of (X := cxOf (L2.CX P w) P w K mg base ["issues", "value", "verdict"] "is_view_of" (defScope S_is_view_of) f cdv A outer s H E) rfl rfl rfl rfl
    exact dss_cons (ds_if (dt_w (dw_or (dt_not (dt_tru hK (be (de_isT (t := "list") (by rfl) z_isinstance (by decide +kernel) (db_var (pv 1)) (pe_tyn (by rfl) z_list rfl))))) (dw_or1 (dt_not (dt_tru hK (be (de_b1 (cd_all) (cr_all rfl) (by rfl) z_all rfl (be (ef (df_comp (ow := [("verdict", 2)]) rfl nd (dib_all hK (db_var (pv 1))) (blkOk_by (by kernel_rfl)) (fun _ _ _ _ _ => dgo_name nd rfl (by first | exact .inl rfl | exact .inr rfl) (by decide)) (fun _ _ _ _ _ => dts_nil) (fun _ _ _ _ _ => de_call c_is_verdict (hr.mono (by decide)) takesN (by rfl) (da_cons (de_var (pv 0)) (da_cons (de_var (pv 2)) (da_nil))) (.cons (.cons LenA.nil))))))))))))) (dss_one (ds_ret (de_bl))) (dss_nil)) (dss_one (ds_ret (de_call c_is_ascending (hr.mono (by decide)) tk (by rfl) (da_cons (ef (df_comp (ow := [("verdict", 2)]) rfl nd (dib_all hK (db_var (pv 1))) (blkOk_by (by kernel_rfl)) (fun _ _ _ _ _ => dgo_name nd rfl (by first | exact .inl rfl | exact .inr rfl) (by decide)) (fun _ _ _ _ _ => dts_nil) (fun _ _ _ _ _ => de_call c_issue_of (hr.mono (by decide)) takesN (by rfl) (da_cons (de_var (pv 2)) (da_nil)) (.cons LenA.nil)))) (da_nil)) (.cons LenA.nil))))
abbrev S_holds_some : Stmt := topS 13
theorem sc_holds_some : FnScope ["view", "views", "other"] ["view", "views"] (defScope S_holds_some) := ⟨rfl, rfl, rfl, by decide +kernel, rfl, by decide +kernel, by decide +kernel⟩
theorem ok_holds_some (ca : Nat → Addr) (z_any : mg "any" = none) (c_holds : Cal P w K mg base "holds" 1 2 (spD ⟨K, ca⟩ 2 C_holds)) {f : Addr} {fd : FuncData} (F : Fun K "holds_some" "holds_some" S_holds_some f fd) : FnOk P w K mg base (L2.CX P w) 2 f fd ["view", "views"] (spD ⟨K, ca⟩ 2 C_holds_some) :=
  fn_D (k := 1) F sc_holds_some fun cdv A outer s H E hr => by
    have nd := (sc_holds_some).nd
    have hK : K = K := rfl
    have hu := hr.units
    have hu1 := hu65 hr
    have tk := takes_of (X := cxOf (L2.CX P w) P w K mg base ["view", "views", "other"] "holds_some" (defScope S_holds_some) f cdv A outer s H E) rfl rfl rfl rfl
    exact dss_one (ds_ret (de_b1 (cd_any) (cr_any rfl) (by rfl) z_any rfl (be (ef (df_comp (ow := [("other", 2)]) rfl nd (dib_all hK (db_var (pv 1))) (blkOk_by (by kernel_rfl)) (fun _ _ _ _ _ => dgo_name nd rfl (by first | exact .inl rfl | exact .inr rfl) (by decide)) (fun _ _ _ _ _ => dts_nil) (fun _ _ _ _ _ => de_call c_holds (hr.mono (by decide)) takesN (by rfl) (da_cons (de_var (pv 0)) (da_cons (de_var (pv 2)) (da_nil))) (.cons (.cons LenA.nil))))))))
abbrev S_is_bar : Stmt := topS 14
theorem sc_is_bar : FnScope ["issues", "value"] ["issues", "value"] (defScope S_is_bar) := ⟨rfl, rfl, rfl, by decide +kernel, rfl, by decide +kernel, by decide +kernel⟩
theorem ok_is_bar (ca : Nat → Addr) (c_is_view_of : Cal P w K mg base "is_view_of" 4 2 (spD ⟨K, ca⟩ 2 C_is_view_of)) (z_len : mg "len" = none) {f : Addr} {fd : FuncData} (F : Fun K "is_bar" "is_bar" S_is_bar f fd) : FnOk P w K mg base (L2.CX P w) 5 f fd ["issues", "value"] (spD ⟨K, ca⟩ 2 C_is_bar) :=
  fn_D (k := 4) F sc_is_bar fun cdv A outer s H E hr => by
    have nd := (sc_is_bar).nd
    have hK : K = K := rfl
    have hu := hr.units
    have hu1 := hu65 hr
    have tk := takes_of (X := cxOf (L2.CX P w) P w K mg base ["issues", "value"] "is_bar" (defScope S_is_bar) f cdv A outer s H E) rfl rfl rfl rfl
    exact dss_one (ds_ret (de_and (de_call c_is_view_of (hr.mono (by decide)) tk (by rfl) (da_cons (de_var (pv 0)) (da_cons (de_var (pv 1)) (da_nil))) (.cons (.cons LenA.nil))) (de_one (de_cmp (od_gt hK) (op_gtA hu) (be (de_b1 (cd_len hK) call_len (by rfl) z_len rfl (db_var (pv 1)))) (be (de_int)) (by rfl)))))
abbrev S_none_holds_another : Stmt := topS 15
theorem sc_none_holds_another : FnScope ["views", "at", "view"] ["views"] (defScope S_none_holds_another) := ⟨rfl, rfl, rfl, by decide +kernel, rfl, by decide +kernel, by decide +kernel⟩
theorem ok_none_holds_another (ca : Nat → Addr) (z_enumerate : mg "enumerate" = none) (c_holds_some : Cal P w K mg base "holds_some" 2 2 (spD ⟨K, ca⟩ 2 C_holds_some)) {f : Addr} {fd : FuncData} (F : Fun K "none_holds_another" "none_holds_another" S_none_holds_another f fd) : FnOk P w K mg base (L2.CX P w) 3 f fd ["views"] (spD ⟨K, ca⟩ 1 C_none_holds_another) :=
  fn_D (k := 2) F sc_none_holds_another fun cdv A outer s H E hr => by
    have nd := (sc_none_holds_another).nd
    have hK : K = K := rfl
    have hu := hr.units
    have hu1 := hu65 hr
    have tk := takes_of (X := cxOf (L2.CX P w) P w K mg base ["views", "at", "view"] "none_holds_another" (defScope S_none_holds_another) f cdv A outer s H E) rfl rfl rfl rfl
    exact dss_cons (ds_for (passes_of rfl) rfl (di_enum (de_var (pv 0)) (by rfl) z_enumerate) (dg_tup hK rfl (dgs_cons (dg_name nd rfl (by first | exact .inl rfl | exact .inr rfl)) (dgs_cons (dg_name nd rfl (by first | exact .inl rfl | exact .inr rfl)) (dgs_nil)))) (dss_one (ds_if (dt_tru hK (be (de_call c_holds_some (hr.mono (by decide)) tk (by rfl) (da_cons (de_var (pv 2)) (da_cons (de_op (od_add hK) op_addA (be (de_slice hK (db_var (pv 0)) (do_none) (do_some (de_var (pv 1))))) (be (de_slice hK (db_var (pv 0)) (do_some (de_op (od_add hK) op_addA (db_var (pv 1)) (be (de_int)))) (do_none)))) (da_nil))) (.cons (.cons LenA.nil))))) (dss_one (ds_ret (de_bl))) (dss_nil)))) (dss_one (ds_ret (de_bl)))
abbrev S_are_bars : Stmt := topS 16
theorem sc_are_bars : FnScope ["issues", "value", "view"] ["issues", "value"] (defScope S_are_bars) := ⟨rfl, rfl, rfl, by decide +kernel, rfl, by decide +kernel, by decide +kernel⟩
theorem ok_are_bars (ca : Nat → Addr) (z_isinstance : mg "isinstance" = none) (z_list : mg "list" = none) (z_all : mg "all" = none) (c_is_bar : Cal P w K mg base "is_bar" 5 2 (spD ⟨K, ca⟩ 2 C_is_bar)) (c_order_of : Cal P w K mg base "order_of" 4 1 (spF ⟨K, ca⟩ 1 C_order_of)) (c_is_ascending : Cal P w K mg base "is_ascending" 1 1 (spD ⟨K, ca⟩ 1 C_is_ascending)) (c_none_holds_another : Cal P w K mg base "none_holds_another" 3 1 (spD ⟨K, ca⟩ 1 C_none_holds_another)) {f : Addr} {fd : FuncData} (F : Fun K "are_bars" "are_bars" S_are_bars f fd) : FnOk P w K mg base (L2.CX P w) 6 f fd ["issues", "value"] (spD ⟨K, ca⟩ 2 C_are_bars) :=
  fn_D (k := 5) F sc_are_bars fun cdv A outer s H E hr => by
    have nd := (sc_are_bars).nd
    have hK : K = K := rfl
    have hu := hr.units
    have hu1 := hu65 hr
    have tk := takes_of (X := cxOf (L2.CX P w) P w K mg base ["issues", "value", "view"] "are_bars" (defScope S_are_bars) f cdv A outer s H E) rfl rfl rfl rfl
    exact dss_cons (ds_if (dt_w (dw_or (dt_not (dt_tru hK (be (de_isT (t := "list") (by rfl) z_isinstance (by decide +kernel) (db_var (pv 1)) (pe_tyn (by rfl) z_list rfl))))) (dw_or1 (dt_not (dt_tru hK (be (de_b1 (cd_all) (cr_all rfl) (by rfl) z_all rfl (be (ef (df_comp (ow := [("view", 2)]) rfl nd (dib_all hK (db_var (pv 1))) (blkOk_by (by kernel_rfl)) (fun _ _ _ _ _ => dgo_name nd rfl (by first | exact .inl rfl | exact .inr rfl) (by decide)) (fun _ _ _ _ _ => dts_nil) (fun _ _ _ _ _ => de_call c_is_bar (hr.mono (by decide)) takesN (by rfl) (da_cons (de_var (pv 0)) (da_cons (de_var (pv 2)) (da_nil))) (.cons (.cons LenA.nil))))))))))))) (dss_one (ds_ret (de_bl))) (dss_nil)) (dss_cons (ds_if (dt_not (dt_tru hK (be (de_call c_is_ascending (hr.mono (by decide)) tk (by rfl) (da_cons (ef (df_comp (ow := [("view", 2)]) rfl nd (dib_all hK (db_var (pv 1))) (blkOk_by (by kernel_rfl)) (fun _ _ _ _ _ => dgo_name nd rfl (by first | exact .inl rfl | exact .inr rfl) (by decide)) (fun _ _ _ _ _ => dts_nil) (fun _ _ _ _ _ => ef (df_call c_order_of (hr.mono (by decide)) takesN (by rfl) (da_cons (de_var (pv 2)) (da_nil)) (.cons LenA.nil))))) (da_nil)) (.cons LenA.nil))))) (dss_one (ds_ret (de_bl))) (dss_nil)) (dss_one (ds_ret (de_call c_none_holds_another (hr.mono (by decide)) tk (by rfl) (da_cons (de_var (pv 1)) (da_nil)) (.cons LenA.nil)))))
abbrev S_is_barring : Stmt := topS 18
theorem sc_is_barring : FnScope ["issues", "value"] ["issues", "value"] (defScope S_is_barring) := ⟨rfl, rfl, rfl, by decide +kernel, rfl, by decide +kernel, by decide +kernel⟩
theorem ok_is_barring (ca : Nat → Addr) (c_are_bars : Cal P w K mg base "are_bars" 6 2 (spD ⟨K, ca⟩ 2 C_are_bars)) {f : Addr} {fd : FuncData} (F : Fun K "is_barring" "is_barring" S_is_barring f fd) : FnOk P w K mg base (L2.CX P w) 7 f fd ["issues", "value"] (spD ⟨K, ca⟩ 2 C_is_barring) :=
  fn_D (k := 6) F sc_is_barring fun cdv A outer s H E hr => by
    have nd := (sc_is_barring).nd
    have hK : K = K := rfl
    have hu := hr.units
    have hu1 := hu65 hr
    have tk := takes_of (X := cxOf (L2.CX P w) P w K mg base ["issues", "value"] "is_barring" (defScope S_is_barring) f cdv A outer s H E) rfl rfl rfl rfl
    exact dss_one (ds_ret (de_call c_are_bars (hr.mono (by decide)) tk (by rfl) (da_cons (de_var (pv 0)) (da_cons (de_var (pv 1)) (da_nil))) (.cons (.cons LenA.nil))))
abbrev S__law_numbers : Stmt := topS 20
theorem sc__law_numbers : FnScope ["script", "at", "count", "cell", "numbers", "k", "mixed"] ["script", "at", "count"] (defScope S__law_numbers) := ⟨rfl, rfl, rfl, by decide +kernel, rfl, by decide +kernel, by decide +kernel⟩
theorem ok__law_numbers (ca : Nat → Addr) (z_len : mg "len" = none) (z_int : mg "int" = none) (z_range : mg "range" = none) {f : Addr} {fd : FuncData} (F : Fun K "_law_numbers" "_law_numbers" S__law_numbers f fd) : FnOk P w K mg base (L2.CX P w) 1 f fd ["script", "at", "count"] (spF ⟨K, ca⟩ 3 C__law_numbers) :=
  fn_F (k := 0) F sc__law_numbers fun cdv A outer s H E hr => by
    have nd := (sc__law_numbers).nd
    have hK : K = K := rfl
    have hu := hr.units
    have hu1 := hu65 hr
    have tk := takes_of (X := cxOf (L2.CX P w) P w K mg base ["script", "at", "count", "cell", "numbers", "k", "mixed"] "_law_numbers" (defScope S__law_numbers) f cdv A outer s H E) rfl rfl rfl rfl
    exact dss_cons (ds_set nd rfl (by first | exact .inl rfl | exact .inr rfl) (de_op (od_mul) op_mulA (be (de_int)) (be (de_op (od_add hK) op_addA (db_var (pv 1)) (be (de_int)))))) (dss_cons (ds_if (dt_cmp (od_lt hK) (op_ltA hu) (db_var (pv 1)) (be (de_b1 (cd_len hK) call_len (by rfl) z_len rfl (db_var (pv 0)))) (by rfl)) (dss_one (ds_set nd rfl (by first | exact .inl rfl | exact .inr rfl) (de_t1 (cd_int) call_int1 (by rfl) z_int rfl (be (de_ix hK hu (db_var (pv 0)) (db_var (pv 1))))))) (dss_nil)) (dss_cons (ds_if (dt_cmp (od_lt hK) (op_ltA hu) (db_var (pv 3)) (be (de_int)) (by rfl)) (dss_one (ds_set nd rfl (by first | exact .inl rfl | exact .inr rfl) (de_op (od_sub) op_sub (be (de_int)) (be (de_op (od_mul) op_mulA (be (de_int)) (db_var (pv 3))))))) (dss_nil)) (dss_cons (ds_setO nd rfl (by first | exact .inl rfl | exact .inr rfl) (df_lst (da_nil))) (dss_cons (ds_for (passes_of rfl) rfl (di_range1 (de_var (pv 2)) (by rfl) z_range) (dg_name nd rfl (by first | exact .inl rfl | exact .inr rfl)) (dss_one (ds_if (dt_cmp (od_ge hK) (op_geA hu) (db_var (pv 3)) (be (de_op (od_pow) op_pow (be (de_int)) (be (de_int)))) (by rfl)) (dss_cons (ds_app (pv 4) (de_op (od_mod) op_mod (db_var (pv 3)) (be (de_int)))) (dss_one (ds_set nd rfl (by first | exact .inl rfl | exact .inr rfl) (de_op (od_div) op_fdiv (db_var (pv 3)) (be (de_int)))))) (dss_cons (ds_set nd rfl (by first | exact .inl rfl | exact .inr rfl) (de_op (od_mod) op_mod (be (de_op (od_add hK) op_addA (be (de_op (od_add hK) op_addA (be (de_op (od_mul) op_mulA (db_var (pv 3)) (be (de_int)))) (be (de_op (od_mul) op_mulA (be (de_op (od_add hK) op_addA (db_var (pv 5)) (be (de_int)))) (be (de_int)))))) (be (de_op (od_mul) op_mulA (db_var (pv 1)) (be (de_int)))))) (be (de_int)))) (dss_cons (ds_set nd rfl (by first | exact .inl rfl | exact .inr rfl) (de_op (od_mod) op_mod (be (de_op (od_add hK) op_addA (be (de_op (od_mul) op_mulA (db_var (pv 6)) (db_var (pv 6)))) (be (de_op (od_mul) op_mulA (be (de_int)) (be (de_op (od_add hK) op_addA (db_var (pv 5)) (be (de_int)))))))) (be (de_int)))) (dss_one (ds_app (pv 4) (de_op (od_mod) op_mod (be (de_op (od_div) op_fdiv (db_var (pv 6)) (be (de_int)))) (be (de_int)))))))))) (dss_one (ds_retV (pv 4)))))))
abbrev S__law_name : Stmt := topS 21
theorem sc__law_name : FnScope ["first", "size", "mix", "letters", "signs", "name", "k"] ["first", "size", "mix"] (defScope S__law_name) := ⟨rfl, rfl, rfl, by decide +kernel, rfl, by decide +kernel, by decide +kernel⟩
theorem ok__law_name (ca : Nat → Addr) (z_range : mg "range" = none) {f : Addr} {fd : FuncData} (F : Fun K "_law_name" "_law_name" S__law_name f fd) : FnOk P w K mg base (L2.CX P w) 1 f fd ["first", "size", "mix"] (spD ⟨K, ca⟩ 3 C__law_name) :=
  fn_D (k := 0) F sc__law_name fun cdv A outer s H E hr => by
    have nd := (sc__law_name).nd
    have hK : K = K := rfl
    have hu := hr.units
    have hu1 := hu65 hr
    have tk := takes_of (X := cxOf (L2.CX P w) P w K mg base ["first", "size", "mix", "letters", "signs", "name", "k"] "_law_name" (defScope S__law_name) f cdv A outer s H E) rfl rfl rfl rfl
    exact dss_cons (ds_set nd rfl (by first | exact .inl rfl | exact .inr rfl) ((de_str))) (dss_cons (ds_set nd rfl (by first | exact .inl rfl | exact .inr rfl) (de_op (od_add hK) op_addA (db_var (pv 3)) (be ((de_str))))) (dss_cons (ds_set nd rfl (by first | exact .inl rfl | exact .inr rfl) (de_ix hK hu (db_var (pv 3)) (be (de_op (od_mod) op_mod (db_var (pv 0)) (be (de_int)))))) (dss_cons (ds_for (passes_of rfl) rfl (di_range1 (de_op (od_mod) op_mod (db_var (pv 1)) (be (de_int))) (by rfl) z_range) (dg_name nd rfl (by first | exact .inl rfl | exact .inr rfl)) (dss_cons (ds_set nd rfl (by first | exact .inl rfl | exact .inr rfl) (de_op (od_mod) op_mod (be (de_op (od_add hK) op_addA (be (de_op (od_add hK) op_addA (be (de_op (od_add hK) op_addA (be (de_op (od_mul) op_mulA (db_var (pv 2)) (be (de_int)))) (db_var (pv 0)))) (be (de_op (od_mul) op_mulA (db_var (pv 6)) (be (de_int)))))) (be (de_int)))) (be (de_int)))) (dss_one (ds_set nd rfl (by first | exact .inl rfl | exact .inr rfl) (de_op (od_add hK) op_addA (db_var (pv 5)) (be (de_ix hK hu (db_var (pv 4)) (be (de_op (od_mod) op_mod (db_var (pv 2)) (be (de_int))))))))))) (dss_one (ds_ret (de_var (pv 5)))))))
abbrev S__law_names : Stmt := topS 22
theorem sc__law_names : FnScope ["numbers", "count", "letters", "found", "k", "one", "size", "mix", "name", "step"] ["numbers", "count"] (defScope S__law_names) := ⟨rfl, rfl, rfl, by decide +kernel, rfl, by decide +kernel, by decide +kernel⟩
theorem ok__law_names (ca : Nat → Addr) (z_range : mg "range" = none) (c__law_name : Cal P w K mg base "_law_name" 1 3 (spD ⟨K, ca⟩ 3 C__law_name)) (z_len : mg "len" = none) {f : Addr} {fd : FuncData} (F : Fun K "_law_names" "_law_names" S__law_names f fd) : FnOk P w K mg base (L2.CX P w) 2 f fd ["numbers", "count"] (spF ⟨K, ca⟩ 2 C__law_names) :=
  fn_F (k := 1) F sc__law_names fun cdv A outer s H E hr => by
    have nd := (sc__law_names).nd
    have hK : K = K := rfl
    have hu := hr.units
    have hu1 := hu65 hr
    have tk := takes_of (X := cxOf (L2.CX P w) P w K mg base ["numbers", "count", "letters", "found", "k", "one", "size", "mix", "name", "step"] "_law_names" (defScope S__law_names) f cdv A outer s H E) rfl rfl rfl rfl
    exact dss_cons (ds_set nd rfl (by first | exact .inl rfl | exact .inr rfl) ((de_str))) (dss_cons (ds_setO nd rfl (by first | exact .inl rfl | exact .inr rfl) (df_lst (da_nil))) (dss_cons (ds_for (passes_of rfl) rfl (di_range1 (de_var (pv 1)) (by rfl) z_range) (dg_name nd rfl (by first | exact .inl rfl | exact .inr rfl)) (dss_cons (ds_par3 rfl nd rfl rfl rfl (by decide) (by decide) (by decide) rfl rfl rfl (da_cons (de_ix hK hu (db_var (pv 0)) (be (de_op (od_mul) op_mulA (be (de_int)) (db_var (pv 4))))) (da_cons (de_ix hK hu (db_var (pv 0)) (be (de_op (od_add hK) op_addA (be (de_op (od_mul) op_mulA (be (de_int)) (db_var (pv 4)))) (be (de_int))))) (da_cons (de_ix hK hu (db_var (pv 0)) (be (de_op (od_add hK) op_addA (be (de_op (od_mul) op_mulA (be (de_int)) (db_var (pv 4)))) (be (de_int))))) (da_nil)))) (by rfl)) (dss_cons (ds_set nd rfl (by first | exact .inl rfl | exact .inr rfl) (de_call c__law_name (hr.mono (by decide)) tk (by rfl) (da_cons (de_var (pv 5)) (da_cons (de_var (pv 6)) (da_cons (de_var (pv 7)) (da_nil)))) (.cons (.cons (.cons LenA.nil))))) (dss_cons (ds_if (dt_w (dw_and (dt_cmp (od_gt hK) (op_gtA hu) (db_var (pv 4)) (be (de_int)) (by rfl)) (dw_and (dt_cmp (od_eq hK) (op_eqA hu) (be (de_op (od_mod) op_mod (db_var (pv 7)) (be (de_int)))) (be (de_int)) (by rfl)) (dw_and1 (dt_cmp (od_lt hK) (op_ltA hu) (be (de_b1 (cd_len hK) call_len (by rfl) z_len rfl (be (de_ix hK hu (db_var (pv 3)) (be (de_neg (de_int))))))) (be (de_int)) (by rfl)))))) (dss_one (ds_set nd rfl (by first | exact .inl rfl | exact .inr rfl) (de_op (od_add hK) op_addA (be (de_ix hK hu (db_var (pv 3)) (be (de_neg (de_int))))) (be (de_ix hK hu (db_var (pv 8)) (be (de_neg (de_int)))))))) (dss_nil)) (dss_cons (ds_for (passes_of rfl) rfl (di_range1 (de_int) (by rfl) z_range) (dg_name nd rfl (by first | exact .inl rfl | exact .inr rfl)) (dss_one (ds_if (dt_cmp (od_in hK) (op_inA hu1) (db_var (pv 8)) (db_var (pv 3)) (by rfl)) (dss_one (ds_set nd rfl (by first | exact .inl rfl | exact .inr rfl) (de_op (od_add hK) op_addA (be (de_ix hK hu (db_var (pv 2)) (be (de_op (od_mod) op_mod (be (de_op (od_add hK) op_addA (db_var (pv 5)) (db_var (pv 9)))) (be (de_int)))))) (be (de_slice hK (db_var (pv 8)) (do_some (de_int)) (do_none)))))) (dss_nil)))) (dss_one (ds_app (pv 3) (de_var (pv 8))))))))) (dss_one (ds_retV (pv 3)))))
abbrev S__law_says : Stmt := topS 23
theorem sc__law_says : FnScope ["said", "due"] ["said", "due"] (defScope S__law_says) := ⟨rfl, rfl, rfl, by decide +kernel, rfl, by decide +kernel, by decide +kernel⟩
theorem ok__law_says (ca : Nat → Addr) (z_isinstance : mg "isinstance" = none) (z_bool : mg "bool" = none) {f : Addr} {fd : FuncData} (F : Fun K "_law_says" "_law_says" S__law_says f fd) : FnOk P w K mg base (L2.CX P w) 1 f fd ["said", "due"] (spD ⟨K, ca⟩ 2 C__law_says) :=
  fn_D (k := 0) F sc__law_says fun cdv A outer s H E hr => by
    have nd := (sc__law_says).nd
    have hK : K = K := rfl
    have hu := hr.units
    have hu1 := hu65 hr
    have tk := takes_of (X := cxOf (L2.CX P w) P w K mg base ["said", "due"] "_law_says" (defScope S__law_says) f cdv A outer s H E) rfl rfl rfl rfl
    exact dss_one (ds_ret (de_and (de_isT (t := "bool") (by rfl) z_isinstance (by decide +kernel) (db_var (pv 0)) (pe_tyn (by rfl) z_bool rfl)) (de_one (de_cmp (od_eq hK) (op_eqA hu) (db_var (pv 0)) (db_var (pv 1)) (by rfl)))))
abbrev S__law_issue : Stmt := topS 24
theorem sc__law_issue : FnScope ["verdict"] ["verdict"] (defScope S__law_issue) := ⟨rfl, rfl, rfl, by decide +kernel, rfl, by decide +kernel, by decide +kernel⟩
theorem ok__law_issue (ca : Nat → Addr) {f : Addr} {fd : FuncData} (F : Fun K "_law_issue" "_law_issue" S__law_issue f fd) : FnOk P w K mg base (L2.CX P w) 1 f fd ["verdict"] (spD ⟨K, ca⟩ 1 C__law_issue) :=
  fn_D (k := 0) F sc__law_issue fun cdv A outer s H E hr => by
    have nd := (sc__law_issue).nd
    have hK : K = K := rfl
    have hu := hr.units
    have hu1 := hu65 hr
    have tk := takes_of (X := cxOf (L2.CX P w) P w K mg base ["verdict"] "_law_issue" (defScope S__law_issue) f cdv A outer s H E) rfl rfl rfl rfl
    exact dss_cons (ds_if (dt_cmp (od_eq hK) (op_eqA hu) (be (de_ix hK hu (db_var (pv 0)) (be (de_int)))) (be ((de_str))) (by rfl)) (dss_one (ds_ret (de_slice hK (db_var (pv 0)) (do_some (de_int)) (do_none)))) (dss_nil)) (dss_one (ds_ret (de_var (pv 0))))
abbrev S__law_opposite : Stmt := topS 25
theorem sc__law_opposite : FnScope ["verdict"] ["verdict"] (defScope S__law_opposite) := ⟨rfl, rfl, rfl, by decide +kernel, rfl, by decide +kernel, by decide +kernel⟩
theorem ok__law_opposite (ca : Nat → Addr) {f : Addr} {fd : FuncData} (F : Fun K "_law_opposite" "_law_opposite" S__law_opposite f fd) : FnOk P w K mg base (L2.CX P w) 1 f fd ["verdict"] (spD ⟨K, ca⟩ 1 C__law_opposite) :=
  fn_D (k := 0) F sc__law_opposite fun cdv A outer s H E hr => by
    have nd := (sc__law_opposite).nd
    have hK : K = K := rfl
    have hu := hr.units
    have hu1 := hu65 hr
    have tk := takes_of (X := cxOf (L2.CX P w) P w K mg base ["verdict"] "_law_opposite" (defScope S__law_opposite) f cdv A outer s H E) rfl rfl rfl rfl
    exact dss_cons (ds_if (dt_cmp (od_eq hK) (op_eqA hu) (be (de_ix hK hu (db_var (pv 0)) (be (de_int)))) (be ((de_str))) (by rfl)) (dss_one (ds_ret (de_slice hK (db_var (pv 0)) (do_some (de_int)) (do_none)))) (dss_nil)) (dss_one (ds_ret (de_op (od_add hK) op_addA (be ((de_str))) (db_var (pv 0)))))
abbrev S__law_order : Stmt := topS 26
theorem sc__law_order : FnScope ["view", "verdict"] ["view"] (defScope S__law_order) := ⟨rfl, rfl, rfl, by decide +kernel, rfl, by decide +kernel, by decide +kernel⟩
theorem ok__law_order (ca : Nat → Addr) (c__law_issue : Cal P w K mg base "_law_issue" 1 1 (spD ⟨K, ca⟩ 1 C__law_issue)) (z_int : mg "int" = none) {f : Addr} {fd : FuncData} (F : Fun K "_law_order" "_law_order" S__law_order f fd) : FnOk P w K mg base (L2.CX P w) 2 f fd ["view"] (spF ⟨K, ca⟩ 1 C__law_order) :=
  fn_F (k := 1) F sc__law_order fun cdv A outer s H E hr => by
    have nd := (sc__law_order).nd
    have hK : K = K := rfl
    have hu := hr.units
    have hu1 := hu65 hr
    have tk := takes_of (X := cxOf (L2.CX P w) P w K mg base ["view", "verdict"] "_law_order" (defScope S__law_order) f cdv A outer s H E) rfl rfl rfl rfl
    exact dss_one (ds_retF (df_comp (ow := [("verdict", 1)]) rfl nd (dib_all hK (db_var (pv 0))) (blkOk_by (by kernel_rfl)) (fun _ _ _ _ _ => dgo_name nd rfl (by first | exact .inl rfl | exact .inr rfl) (by decide)) (fun _ _ _ _ _ => dts_nil) (fun _ _ _ _ _ => de_tup (da_cons (de_call c__law_issue (hr.mono (by decide)) takesN (by rfl) (da_cons (de_var (pv 1)) (da_nil)) (.cons LenA.nil)) (da_cons (de_t1 (cd_int) call_int1 (by rfl) z_int rfl (be (de_cmp (od_eq hK) (op_eqA hu) (be (de_ix hK hu (db_var (pv 1)) (be (de_int)))) (be ((de_str))) (by rfl)))) (da_nil))))))
abbrev S__law_sort : Stmt := topS 27
theorem sc__law_sort : FnScope ["views", "pair", "view"] ["views"] (defScope S__law_sort) := ⟨rfl, rfl, rfl, by decide +kernel, rfl, by decide +kernel, by decide +kernel⟩
theorem ok__law_sort (ca : Nat → Addr) (z_sorted : mg "sorted" = none) (c__law_order : Cal P w K mg base "_law_order" 2 1 (spF ⟨K, ca⟩ 1 C__law_order)) {f : Addr} {fd : FuncData} (F : Fun K "_law_sort" "_law_sort" S__law_sort f fd) : FnOk P w K mg base (L2.CX P w) 3 f fd ["views"] (spF ⟨K, ca⟩ 1 C__law_sort) :=
  fn_F (k := 2) F sc__law_sort fun cdv A outer s H E hr => by
    have nd := (sc__law_sort).nd
    have hK : K = K := rfl
    have hu := hr.units
    have hu1 := hu65 hr
    have tk := takes_of (X := cxOf (L2.CX P w) P w K mg base ["views", "pair", "view"] "_law_sort" (defScope S__law_sort) f cdv A outer s H E) rfl rfl rfl rfl
    exact dss_one (ds_retF (df_comp (ow := [("pair", 1)]) rfl nd (dib_all hK (be (ef (df_b1 (cf_sorted hK) (cr_sortedD hu) (by rfl) z_sorted rfl (be (ef (df_comp (ow := [("view", 2)]) rfl nd (dib_all hK (db_var (pv 0))) (blkOk_by (by kernel_rfl)) (fun _ _ _ _ _ => dgo_name nd rfl (by first | exact .inl rfl | exact .inr rfl) (by decide)) (fun _ _ _ _ _ => dts_nil) (fun _ _ _ _ _ => de_tup (da_cons (ef (df_call c__law_order (hr.mono (by decide)) takesN (by rfl) (da_cons (de_var (pv 2)) (da_nil)) (.cons LenA.nil))) (da_cons (de_var (pv 2)) (da_nil))))))))))) (blkOk_by (by kernel_rfl)) (fun _ _ _ _ _ => dgo_name nd rfl (by first | exact .inl rfl | exact .inr rfl) (by decide)) (fun _ _ _ _ _ => dts_nil) (fun _ _ _ _ _ => de_ix hK hu (db_var (pv 1)) (be (de_int)))))
abbrev S__law_view : Stmt := topS 28
theorem sc__law_view : FnScope ["verdicts", "pair", "verdict"] ["verdicts"] (defScope S__law_view) := ⟨rfl, rfl, rfl, by decide +kernel, rfl, by decide +kernel, by decide +kernel⟩
theorem ok__law_view (ca : Nat → Addr) (z_sorted : mg "sorted" = none) (c__law_issue : Cal P w K mg base "_law_issue" 1 1 (spD ⟨K, ca⟩ 1 C__law_issue)) (z_int : mg "int" = none) {f : Addr} {fd : FuncData} (F : Fun K "_law_view" "_law_view" S__law_view f fd) : FnOk P w K mg base (L2.CX P w) 2 f fd ["verdicts"] (spF ⟨K, ca⟩ 1 C__law_view) :=
  fn_F (k := 1) F sc__law_view fun cdv A outer s H E hr => by
    have nd := (sc__law_view).nd
    have hK : K = K := rfl
    have hu := hr.units
    have hu1 := hu65 hr
    have tk := takes_of (X := cxOf (L2.CX P w) P w K mg base ["verdicts", "pair", "verdict"] "_law_view" (defScope S__law_view) f cdv A outer s H E) rfl rfl rfl rfl
    exact dss_one (ds_retF (df_comp (ow := [("pair", 1)]) rfl nd (dib_all hK (be (ef (df_b1 (cf_sorted hK) (cr_sortedD hu) (by rfl) z_sorted rfl (be (ef (df_comp (ow := [("verdict", 2)]) rfl nd (dib_all hK (db_var (pv 0))) (blkOk_by (by kernel_rfl)) (fun _ _ _ _ _ => dgo_name nd rfl (by first | exact .inl rfl | exact .inr rfl) (by decide)) (fun _ _ _ _ _ => dts_nil) (fun _ _ _ _ _ => de_tup (da_cons (de_call c__law_issue (hr.mono (by decide)) takesN (by rfl) (da_cons (de_var (pv 2)) (da_nil)) (.cons LenA.nil)) (da_cons (de_t1 (cd_int) call_int1 (by rfl) z_int rfl (be (de_cmp (od_eq hK) (op_eqA hu) (be (de_ix hK hu (db_var (pv 2)) (be (de_int)))) (be ((de_str))) (by rfl)))) (da_cons (de_var (pv 2)) (da_nil)))))))))))) (blkOk_by (by kernel_rfl)) (fun _ _ _ _ _ => dgo_name nd rfl (by first | exact .inl rfl | exact .inr rfl) (by decide)) (fun _ _ _ _ _ => dts_nil) (fun _ _ _ _ _ => de_ix hK hu (db_var (pv 1)) (be (de_int)))))
abbrev S__law_rows : Stmt := topS 29
theorem sc__law_rows : FnScope ["issues", "found", "issue", "longer", "row"] ["issues"] (defScope S__law_rows) := ⟨rfl, rfl, rfl, by decide +kernel, rfl, by decide +kernel, by decide +kernel⟩
theorem ok__law_rows (ca : Nat → Addr) {f : Addr} {fd : FuncData} (F : Fun K "_law_rows" "_law_rows" S__law_rows f fd) : FnOk P w K mg base (L2.CX P w) 1 f fd ["issues"] (spD ⟨K, ca⟩ 1 C__law_rows) :=
  fn_D (k := 0) F sc__law_rows fun cdv A outer s H E hr => by
    have nd := (sc__law_rows).nd
    have hK : K = K := rfl
    have hu := hr.units
    have hu1 := hu65 hr
    have tk := takes_of (X := cxOf (L2.CX P w) P w K mg base ["issues", "found", "issue", "longer", "row"] "_law_rows" (defScope S__law_rows) f cdv A outer s H E) rfl rfl rfl rfl
    exact dss_cons (ds_set nd rfl (by first | exact .inl rfl | exact .inr rfl) (ef (df_lst (da_cons (ef (df_lst (da_nil))) (da_nil))))) (dss_cons (ds_for (passes_of rfl) rfl (di_all hK (de_var (pv 0))) (dg_name nd rfl (by first | exact .inl rfl | exact .inr rfl)) (dss_cons (ds_set nd rfl (by first | exact .inl rfl | exact .inr rfl) (ef (df_lst (da_nil)))) (dss_cons (ds_for (passes_of rfl) rfl (di_all hK (de_var (pv 1))) (dg_name nd rfl (by first | exact .inl rfl | exact .inr rfl)) (dss_one (ds_set nd rfl (by first | exact .inl rfl | exact .inr rfl) (de_op (od_add hK) op_addA (db_var (pv 3)) (be (ef (df_lst (da_cons (de_op (od_add hK) op_addA (db_var (pv 4)) (be (ef (df_lst (da_cons (de_var (pv 2)) (da_nil)))))) (da_cons (de_op (od_add hK) op_addA (db_var (pv 4)) (be (ef (df_lst (da_cons (de_op (od_add hK) op_addA (be ((de_str))) (db_var (pv 2))) (da_nil)))))) (da_nil)))))))))) (dss_one (ds_set nd rfl (by first | exact .inl rfl | exact .inr rfl) (de_var (pv 3))))))) (dss_one (ds_ret (de_var (pv 1)))))
abbrev S__law_has : Stmt := topS 30
theorem sc__law_has : FnScope ["view", "other", "verdict"] ["view", "other"] (defScope S__law_has) := ⟨rfl, rfl, rfl, by decide +kernel, rfl, by decide +kernel, by decide +kernel⟩
theorem ok__law_has (ca : Nat → Addr) {f : Addr} {fd : FuncData} (F : Fun K "_law_has" "_law_has" S__law_has f fd) : FnOk P w K mg base (L2.CX P w) 1 f fd ["view", "other"] (spD ⟨K, ca⟩ 2 C__law_has) :=
  fn_D (k := 0) F sc__law_has fun cdv A outer s H E hr => by
    have nd := (sc__law_has).nd
    have hK : K = K := rfl
    have hu := hr.units
    have hu1 := hu65 hr
    have tk := takes_of (X := cxOf (L2.CX P w) P w K mg base ["view", "other", "verdict"] "_law_has" (defScope S__law_has) f cdv A outer s H E) rfl rfl rfl rfl
    exact dss_one (ds_ret (de_cmp (od_eq hK) (op_eqA hu) (be (ef (df_comp (ow := [("verdict", 2)]) rfl nd (dib_all hK (db_var (pv 1))) (blkOk_by (by kernel_rfl)) (fun _ _ _ _ _ => dgo_name nd rfl (by first | exact .inl rfl | exact .inr rfl) (by decide)) (fun _ _ _ _ _ => dts_one (dt_cmp (od_notIn hK) (op_notInA hu1) (db_var (pv 2)) (db_var (pv 0)) (by rfl))) (fun _ _ _ _ _ => de_var (pv 2))))) (be (ef (df_lst (da_nil)))) (by rfl)))
abbrev S__law_hanging : Stmt := topS 31
theorem sc__law_hanging : FnScope ["opinions", "found", "opinion", "parts", "verdict", "part"] ["opinions"] (defScope S__law_hanging) := ⟨rfl, rfl, rfl, by decide +kernel, rfl, by decide +kernel, by decide +kernel⟩
theorem ok__law_hanging (ca : Nat → Addr) {f : Addr} {fd : FuncData} (F : Fun K "_law_hanging" "_law_hanging" S__law_hanging f fd) : FnOk P w K mg base (L2.CX P w) 1 f fd ["opinions"] (spF ⟨K, ca⟩ 1 C__law_hanging) :=
  fn_F (k := 0) F sc__law_hanging fun cdv A outer s H E hr => by
    have nd := (sc__law_hanging).nd
    have hK : K = K := rfl
    have hu := hr.units
    have hu1 := hu65 hr
    have tk := takes_of (X := cxOf (L2.CX P w) P w K mg base ["opinions", "found", "opinion", "parts", "verdict", "part"] "_law_hanging" (defScope S__law_hanging) f cdv A outer s H E) rfl rfl rfl rfl
    exact dss_cons (ds_setO nd rfl (by first | exact .inl rfl | exact .inr rfl) (df_dctT)) (dss_cons (ds_for (passes_of rfl) rfl (di_all hK (de_var (pv 0))) (dg_name nd rfl (by first | exact .inl rfl | exact .inr rfl)) (dss_cons (ds_set nd rfl (by first | exact .inl rfl | exact .inr rfl) (ef (df_lst (da_cons (de_tup (da_nil)) (da_nil))))) (dss_cons (ds_for (passes_of rfl) rfl (di_all hK (de_var (pv 2))) (dg_name nd rfl (by first | exact .inl rfl | exact .inr rfl)) (dss_one (ds_set nd rfl (by first | exact .inl rfl | exact .inr rfl) (de_op (od_add hK) op_addA (db_var (pv 3)) (be (ef (df_comp (ow := [("part", 5)]) rfl nd (dib_all hK (db_var (pv 3))) (blkOk_by (by kernel_rfl)) (fun _ _ _ _ _ => dgo_name nd rfl (by first | exact .inl rfl | exact .inr rfl) (by decide)) (fun _ _ _ _ _ => dts_nil) (fun _ _ _ _ _ => de_op (od_add hK) op_addA (db_var (pv 5)) (be (de_tup (da_cons (de_var (pv 4)) (da_nil)))))))))))) (dss_one (ds_for (passes_of rfl) rfl (di_all hK (de_var (pv 3))) (dg_name nd rfl (by first | exact .inl rfl | exact .inr rfl)) (dss_one (ds_asg (de_bl) (dg_put (W := W0) hu (pv 1) (de_var (pv 5)))))))))) (dss_one (ds_retV (pv 1))))
abbrev S__law_views : Stmt := topS 32
theorem sc__law_views : FnScope ["issues", "found", "issue", "longer", "view"] ["issues"] (defScope S__law_views) := ⟨rfl, rfl, rfl, by decide +kernel, rfl, by decide +kernel, by decide +kernel⟩
theorem ok__law_views (ca : Nat → Addr) (z_list : mg "list" = none) {f : Addr} {fd : FuncData} (F : Fun K "_law_views" "_law_views" S__law_views f fd) : FnOk P w K mg base (L2.CX P w) 1 f fd ["issues"] (spD ⟨K, ca⟩ 1 C__law_views) :=
  fn_D (k := 0) F sc__law_views fun cdv A outer s H E hr => by
    have nd := (sc__law_views).nd
    have hK : K = K := rfl
    have hu := hr.units
    have hu1 := hu65 hr
    have tk := takes_of (X := cxOf (L2.CX P w) P w K mg base ["issues", "found", "issue", "longer", "view"] "_law_views" (defScope S__law_views) f cdv A outer s H E) rfl rfl rfl rfl
    exact dss_cons (ds_set nd rfl (by first | exact .inl rfl | exact .inr rfl) (ef (df_lst (da_cons (de_tup (da_nil)) (da_nil))))) (dss_cons (ds_for (passes_of rfl) rfl (di_all hK (de_var (pv 0))) (dg_name nd rfl (by first | exact .inl rfl | exact .inr rfl)) (dss_cons (ds_setO nd rfl (by first | exact .inl rfl | exact .inr rfl) (df_t1 (cf_list hK) call_list_of (by rfl) z_list rfl (db_var (pv 1)))) (dss_cons (ds_for (passes_of rfl) rfl (di_all hK (de_var (pv 1))) (dg_name nd rfl (by first | exact .inl rfl | exact .inr rfl)) (dss_cons (ds_app (pv 3) (de_op (od_add hK) op_addA (db_var (pv 4)) (be (de_tup (da_cons (de_var (pv 2)) (da_nil)))))) (dss_one (ds_app (pv 3) (de_op (od_add hK) op_addA (db_var (pv 4)) (be (de_tup (da_cons (de_op (od_add hK) op_addA (be ((de_str))) (db_var (pv 2))) (da_nil))))))))) (dss_one (ds_frz (ds_set nd rfl (by first | exact .inl rfl | exact .inr rfl) (de_var (pv 3)))))))) (dss_one (ds_ret (de_var (pv 1)))))
abbrev S__law_least : Stmt := topS 33
theorem sc__law_least : FnScope ["issues", "hanging", "found", "view", "least", "k"] ["issues", "hanging"] (defScope S__law_least) := ⟨rfl, rfl, rfl, by decide +kernel, rfl, by decide +kernel, by decide +kernel⟩
theorem ok__law_least (ca : Nat → Addr) (c__law_views : Cal P w K mg base "_law_views" 1 1 (spD ⟨K, ca⟩ 1 C__law_views)) (z_len : mg "len" = none) (z_range : mg "range" = none) (z_list : mg "list" = none) (c__law_sort : Cal P w K mg base "_law_sort" 3 1 (spF ⟨K, ca⟩ 1 C__law_sort)) {f : Addr} {fd : FuncData} (F : Fun K "_law_least" "_law_least" S__law_least f fd) : FnOk P w K mg base (L2.CX P w) 4 f fd ["issues", "hanging"] (spF ⟨K, ca⟩ 2 C__law_least) :=
  fn_F (k := 3) F sc__law_least fun cdv A outer s H E hr => by
    have nd := (sc__law_least).nd
    have hK : K = K := rfl
    have hu := hr.units
    have hu1 := hu65 hr
    have tk := takes_of (X := cxOf (L2.CX P w) P w K mg base ["issues", "hanging", "found", "view", "least", "k"] "_law_least" (defScope S__law_least) f cdv A outer s H E) rfl rfl rfl rfl
    exact dss_cons (ds_setO nd rfl (by first | exact .inl rfl | exact .inr rfl) (df_lst (da_nil))) (dss_cons (ds_for (passes_of rfl) rfl (di_all hK (de_call c__law_views (hr.mono (by decide)) tk (by rfl) (da_cons (de_var (pv 0)) (da_nil)) (.cons LenA.nil))) (dg_name nd rfl (by first | exact .inl rfl | exact .inr rfl)) (dss_one (ds_if (dt_cmp (od_notIn hK) (op_notInA hu1) (db_var (pv 3)) (db_var (pv 1)) (by rfl)) (dss_cons (ds_set nd rfl (by first | exact .inl rfl | exact .inr rfl) (de_bl)) (dss_cons (ds_for (passes_of rfl) rfl (di_range1 (de_b1 (cd_len hK) call_len (by rfl) z_len rfl (db_var (pv 3))) (by rfl) z_range) (dg_name nd rfl (by first | exact .inl rfl | exact .inr rfl)) (dss_one (ds_if (dt_cmp (od_notIn hK) (op_notInA hu1) (be (de_op (od_add hK) op_addA (be (de_slice hK (db_var (pv 3)) (do_none) (do_some (de_var (pv 5))))) (be (de_slice hK (db_var (pv 3)) (do_some (de_op (od_add hK) op_addA (db_var (pv 5)) (be (de_int)))) (do_none))))) (db_var (pv 1)) (by rfl)) (dss_one (ds_set nd rfl (by first | exact .inl rfl | exact .inr rfl) (de_bl))) (dss_nil)))) (dss_one (ds_if (dt_tru hK (db_var (pv 4))) (dss_one (ds_app (pv 2) (ef (df_t1 (cf_list hK) call_list_of (by rfl) z_list rfl (db_var (pv 3)))))) (dss_nil))))) (dss_nil)))) (dss_one (ds_frz (ds_retF (df_call c__law_sort (hr.mono (by decide)) tk (by rfl) (da_cons (de_var (pv 2)) (da_nil)) (.cons LenA.nil))))))
abbrev S__law_agenda : Stmt := topS 34
theorem sc__law_agenda : FnScope ["script", "at", "most", "n", "issues", "rows", "m", "kind", "opinions", "bars", "k", "size", "j", "row", "bar"] ["script", "at", "most"] (defScope S__law_agenda) := ⟨rfl, rfl, rfl, by decide +kernel, rfl, by decide +kernel, by decide +kernel⟩
theorem ok__law_agenda (ca : Nat → Addr) (c__law_numbers : Cal P w K mg base "_law_numbers" 1 3 (spF ⟨K, ca⟩ 3 C__law_numbers)) (z_sorted : mg "sorted" = none) (c__law_names : Cal P w K mg base "_law_names" 2 2 (spF ⟨K, ca⟩ 2 C__law_names)) (c__law_rows : Cal P w K mg base "_law_rows" 1 1 (spD ⟨K, ca⟩ 1 C__law_rows)) (z_len : mg "len" = none) (z_range : mg "range" = none) (c__law_has : Cal P w K mg base "_law_has" 1 2 (spD ⟨K, ca⟩ 2 C__law_has)) {f : Addr} {fd : FuncData} (F : Fun K "_law_agenda" "_law_agenda" S__law_agenda f fd) : FnOk P w K mg base (L2.CX P w) 3 f fd ["script", "at", "most"] (spD ⟨K, ca⟩ 3 C__law_agenda) :=
  fn_D (k := 2) F sc__law_agenda fun cdv A outer s H E hr => by
    have nd := (sc__law_agenda).nd
    have hK : K = K := rfl
    have hu := hr.units
    have hu1 := hu65 hr
    have tk := takes_of (X := cxOf (L2.CX P w) P w K mg base ["script", "at", "most", "n", "issues", "rows", "m", "kind", "opinions", "bars", "k", "size", "j", "row", "bar"] "_law_agenda" (defScope S__law_agenda) f cdv A outer s H E) rfl rfl rfl rfl
    exact dss_cons (ds_set nd rfl (by first | exact .inl rfl | exact .inr rfl) (ef (df_call c__law_numbers (hr.mono (by decide)) tk (by rfl) (da_cons (de_var (pv 0)) (da_cons (de_var (pv 1)) (da_cons (de_int) (da_nil)))) (.cons (.cons (.cons LenA.nil)))))) (dss_cons (ds_set nd rfl (by first | exact .inl rfl | exact .inr rfl) (ef (df_b1 (cf_sorted hK) (cr_sortedD hu) (by rfl) z_sorted rfl (be (ef (df_call c__law_names (hr.mono (by decide)) tk (by rfl) (da_cons (ef (df_call c__law_numbers (hr.mono (by decide)) tk (by rfl) (da_cons (de_var (pv 0)) (da_cons (de_op (od_add hK) op_addA (db_var (pv 1)) (be (de_int))) (da_cons (de_int) (da_nil)))) (.cons (.cons (.cons LenA.nil))))) (da_cons (de_op (od_add hK) op_addA (be (de_int)) (be (de_op (od_mod) op_mod (be (de_ix hK hu (db_var (pv 3)) (be (de_int)))) (db_var (pv 2))))) (da_nil))) (.cons (.cons LenA.nil)))))))) (dss_cons (ds_set nd rfl (by first | exact .inl rfl | exact .inr rfl) (de_call c__law_rows (hr.mono (by decide)) tk (by rfl) (da_cons (de_var (pv 4)) (da_nil)) (.cons LenA.nil))) (dss_cons (ds_set nd rfl (by first | exact .inl rfl | exact .inr rfl) (ef (df_call c__law_numbers (hr.mono (by decide)) tk (by rfl) (da_cons (de_var (pv 0)) (da_cons (de_op (od_add hK) op_addA (db_var (pv 1)) (be (de_int))) (da_cons (de_int) (da_nil)))) (.cons (.cons (.cons LenA.nil)))))) (dss_cons (ds_set nd rfl (by first | exact .inl rfl | exact .inr rfl) (de_op (od_mod) op_mod (be (de_ix hK hu (db_var (pv 3)) (be (de_int)))) (be (de_int)))) (dss_cons (ds_comp (ow := [("k", 10)]) rfl nd rfl rfl (by rfl) (ib (di_range1 (de_b1 (cd_len hK) call_len (by rfl) z_len rfl (db_var (pv 5))) (by rfl) z_range)) (blkOk_by (by kernel_rfl)) (fun _ _ _ _ _ => dgo_name nd rfl (by first | exact .inl rfl | exact .inr rfl) (by decide)) (fun _ _ _ _ _ => dts_one (dt_cmp (od_eq hK) (op_eqA hu) (be (de_op (od_mod) op_mod (be (de_ix hK hu (db_var (pv 6)) (db_var (pv 10)))) (be (de_ix hK hu (be (ef (df_lst (da_cons (de_int) (da_cons (de_int) (da_cons (de_int) (da_cons (de_int) (da_cons (de_int) (da_cons (de_int) (da_nil)))))))))) (db_var (pv 7)))))) (be (de_int)) (by rfl))) (fun _ _ _ _ _ => de_ix hK hu (db_var (pv 5)) (db_var (pv 10)))) (dss_cons (ds_if (dt_cmp (od_eq hK) (op_eqA hu) (db_var (pv 7)) (be (de_int)) (by rfl)) (dss_one (ds_comp (ow := [("k", 10)]) rfl nd rfl rfl (by rfl) (ib (di_range1 (de_b1 (cd_len hK) call_len (by rfl) z_len rfl (db_var (pv 5))) (by rfl) z_range)) (blkOk_by (by kernel_rfl)) (fun _ _ _ _ _ => dgo_name nd rfl (by first | exact .inl rfl | exact .inr rfl) (by decide)) (fun _ _ _ _ _ => dts_one (dt_cmp (od_gt hK) (op_gtA hu) (be (de_op (od_mod) op_mod (be (de_ix hK hu (db_var (pv 6)) (db_var (pv 10)))) (be (de_int)))) (be (de_int)) (by rfl))) (fun _ _ _ _ _ => de_ix hK hu (db_var (pv 5)) (db_var (pv 10))))) (dss_nil)) (dss_cons (ds_if (dt_cmp (od_eq hK) (op_eqA hu) (db_var (pv 7)) (be (de_int)) (by rfl)) (dss_cons (ds_setO nd rfl (by first | exact .inl rfl | exact .inr rfl) (df_lst (da_nil))) (dss_cons (ds_for (passes_of rfl) rfl (di_range1 (de_op (od_add hK) op_addA (be (de_int)) (be (de_op (od_mod) op_mod (be (de_ix hK hu (db_var (pv 3)) (be (de_int)))) (be (de_int))))) (by rfl) z_range) (dg_name nd rfl (by first | exact .inl rfl | exact .inr rfl)) (dss_cons (ds_set nd rfl (by first | exact .inl rfl | exact .inr rfl) (de_op (od_add hK) op_addA (be (de_int)) (be (de_op (od_mod) op_mod (be (de_ix hK hu (db_var (pv 3)) (be (de_op (od_add hK) op_addA (be (de_int)) (db_var (pv 10)))))) (be (de_int)))))) (dss_one (ds_app (pv 9) (ef (df_comp (ow := [("j", 12)]) rfl nd (ib (di_range1 (de_var (pv 11)) (by rfl) z_range)) (blkOk_by (by kernel_rfl)) (fun _ _ _ _ _ => dgo_name nd rfl (by first | exact .inl rfl | exact .inr rfl) (by decide)) (fun _ _ _ _ _ => dts_nil) (fun _ _ _ _ _ => de_ix hK hu (be (ef (df_lst (da_cons (de_ix hK hu (db_var (pv 4)) (be (de_op (od_mod) op_mod (be (de_op (od_add hK) op_addA (be (de_ix hK hu (db_var (pv 6)) (be (de_op (od_add hK) op_addA (be (de_op (od_mul) op_mulA (be (de_int)) (db_var (pv 10)))) (db_var (pv 12)))))) (db_var (pv 12)))) (be (de_b1 (cd_len hK) call_len (by rfl) z_len rfl (db_var (pv 4))))))) (da_cons (de_op (od_add hK) op_addA (be ((de_str))) (be (de_ix hK hu (db_var (pv 4)) (be (de_op (od_mod) op_mod (be (de_op (od_add hK) op_addA (be (de_ix hK hu (db_var (pv 6)) (be (de_op (od_add hK) op_addA (be (de_op (od_mul) op_mulA (be (de_int)) (db_var (pv 10)))) (db_var (pv 12)))))) (db_var (pv 12)))) (be (de_b1 (cd_len hK) call_len (by rfl) z_len rfl (db_var (pv 4))))))))) (da_nil)))))) (be (de_op (od_mod) op_mod (be (de_ix hK hu (db_var (pv 6)) (be (de_op (od_add hK) op_addA (be (de_op (od_add hK) op_addA (be (de_int)) (be (de_op (od_mul) op_mulA (be (de_int)) (db_var (pv 10)))))) (db_var (pv 12)))))) (be (de_int))))))))))) (dss_one (ds_comp (ow := [("row", 13)]) rfl nd rfl rfl (by rfl) (dib_all hK (db_var (pv 5))) (blkOk_by (by kernel_rfl)) (fun _ _ _ _ _ => dgo_name nd rfl (by first | exact .inl rfl | exact .inr rfl) (by decide)) (fun _ _ _ _ _ => dts_one (dt_cmp (od_eq hK) (op_eqA hu) (be (ef (df_comp (ow := [("bar", 14)]) rfl nd (dib_all hK (db_var (pv 9))) (blkOk_by (by kernel_rfl)) (fun _ _ _ _ _ => dgo_name nd rfl (by first | exact .inl rfl | exact .inr rfl) (by decide)) (fun _ _ _ _ _ => dts_one (dt_tru hK (be (de_call c__law_has (hr.mono (by decide)) takesN (by rfl) (da_cons (de_var (pv 13)) (da_cons (de_var (pv 14)) (da_nil))) (.cons (.cons LenA.nil)))))) (fun _ _ _ _ _ => de_var (pv 14))))) (be (ef (df_lst (da_nil)))) (by rfl))) (fun _ _ _ _ _ => de_var (pv 13)))))) (dss_nil)) (dss_cons (ds_if (dt_cmp (od_eq hK) (op_eqA hu) (db_var (pv 8)) (be (ef (df_lst (da_nil)))) (by rfl)) (dss_one (ds_set nd rfl (by first | exact .inl rfl | exact .inr rfl) (ef (df_lst (da_cons (de_ix hK hu (db_var (pv 5)) (be (de_op (od_mod) op_mod (be (de_ix hK hu (db_var (pv 6)) (be (de_int)))) (be (de_b1 (cd_len hK) call_len (by rfl) z_len rfl (db_var (pv 5))))))) (da_nil)))))) (dss_nil)) (dss_one (ds_ret (de_tup (da_cons (de_var (pv 4)) (da_cons (de_var (pv 8)) (da_nil))))))))))))))
abbrev S__law_stranger : Stmt := topS 35
theorem sc__law_stranger : FnScope ["names", "number", "k", "name"] ["names", "number"] (defScope S__law_stranger) := ⟨rfl, rfl, rfl, by decide +kernel, rfl, by decide +kernel, by decide +kernel⟩
theorem ok__law_stranger (ca : Nat → Addr) (z_range : mg "range" = none) (z_str : mg "str" = none) {f : Addr} {fd : FuncData} (F : Fun K "_law_stranger" "_law_stranger" S__law_stranger f fd) : FnOk P w K mg base (L2.CX P w) 1 f fd ["names", "number"] (spD ⟨K, ca⟩ 2 C__law_stranger) :=
  fn_D (k := 0) F sc__law_stranger fun cdv A outer s H E hr => by
    have nd := (sc__law_stranger).nd
    have hK : K = K := rfl
    have hu := hr.units
    have hu1 := hu65 hr
    have tk := takes_of (X := cxOf (L2.CX P w) P w K mg base ["names", "number", "k", "name"] "_law_stranger" (defScope S__law_stranger) f cdv A outer s H E) rfl rfl rfl rfl
    exact dss_cons (ds_for (passes_of rfl) rfl (di_range1 (de_int) (by rfl) z_range) (dg_name nd rfl (by first | exact .inl rfl | exact .inr rfl)) (dss_cons (ds_set nd rfl (by first | exact .inl rfl | exact .inr rfl) (de_op (od_add hK) op_addA (be ((de_str))) (be (de_t1 (cd_str) call_str_int (by rfl) z_str rfl (be (de_op (od_mod) op_mod (be (de_op (od_add hK) op_addA (db_var (pv 1)) (db_var (pv 2)))) (be (de_int)))))))) (dss_one (ds_if (dt_cmp (od_notIn hK) (op_notInA hu1) (db_var (pv 3)) (db_var (pv 0)) (by rfl)) (dss_one (ds_ret (de_var (pv 3)))) (dss_nil))))) (dss_one (ds_ret ((de_str))))
abbrev S__law_is_view : Stmt := topS 36
theorem sc__law_is_view : FnScope ["issues", "value", "places", "one", "k"] ["issues", "value"] (defScope S__law_is_view) := ⟨rfl, rfl, rfl, by decide +kernel, rfl, by decide +kernel, by decide +kernel⟩
theorem ok__law_is_view (ca : Nat → Addr) (z_isinstance : mg "isinstance" = none) (z_list : mg "list" = none) (z_str : mg "str" = none) (c__law_issue : Cal P w K mg base "_law_issue" 1 1 (spD ⟨K, ca⟩ 1 C__law_issue)) (z_len : mg "len" = none) (z_range : mg "range" = none) {f : Addr} {fd : FuncData} (F : Fun K "_law_is_view" "_law_is_view" S__law_is_view f fd) : FnOk P w K mg base (L2.CX P w) 2 f fd ["issues", "value"] (spD ⟨K, ca⟩ 2 C__law_is_view) :=
  fn_D (k := 1) F sc__law_is_view fun cdv A outer s H E hr => by
    have nd := (sc__law_is_view).nd
    have hK : K = K := rfl
    have hu := hr.units
    have hu1 := hu65 hr
    have tk := takes_of (X := cxOf (L2.CX P w) P w K mg base ["issues", "value", "places", "one", "k"] "_law_is_view" (defScope S__law_is_view) f cdv A outer s H E) rfl rfl rfl rfl
    exact dss_cons (ds_if (dt_w (dw_or (dt_not (dt_tru hK (be (de_isT (t := "list") (by rfl) z_isinstance (by decide +kernel) (db_var (pv 1)) (pe_tyn (by rfl) z_list rfl))))) (dw_or1 (dt_cmp (od_ne hK) (op_neA hu) (be (ef (df_comp (ow := [("one", 3)]) rfl nd (dib_all hK (db_var (pv 1))) (blkOk_by (by kernel_rfl)) (fun _ _ _ _ _ => dgo_name nd rfl (by first | exact .inl rfl | exact .inr rfl) (by decide)) (fun _ _ _ _ _ => dts_one (dt_w (dw_or (dt_not (dt_tru hK (be (de_isT (t := "str") (by rfl) z_isinstance (by decide +kernel) (db_var (pv 3)) (pe_tyn (by rfl) z_str rfl))))) (dw_or (dt_cmp (od_eq hK) (op_eqA hu) (db_var (pv 3)) (be ((de_str))) (by rfl)) (dw_or1 (dt_cmp (od_notIn hK) (op_notInA hu1) (be (de_call c__law_issue (hr.mono (by decide)) takesN (by rfl) (da_cons (de_var (pv 3)) (da_nil)) (.cons LenA.nil))) (db_var (pv 0)) (by rfl))))))) (fun _ _ _ _ _ => de_var (pv 3))))) (be (ef (df_lst (da_nil)))) (by rfl))))) (dss_one (ds_ret (de_bl))) (dss_nil)) (dss_cons (ds_set nd rfl (by first | exact .inl rfl | exact .inr rfl) (ef (df_comp (ow := [("one", 3)]) rfl nd (dib_all hK (db_var (pv 1))) (blkOk_by (by kernel_rfl)) (fun _ _ _ _ _ => dgo_name nd rfl (by first | exact .inl rfl | exact .inr rfl) (by decide)) (fun _ _ _ _ _ => dts_nil) (fun _ _ _ _ _ => de_index hK hu1 (db_var (pv 0)) (be (de_call c__law_issue (hr.mono (by decide)) takesN (by rfl) (da_cons (de_var (pv 3)) (da_nil)) (.cons LenA.nil))))))) (dss_one (ds_ret (de_cmp (od_eq hK) (op_eqA hu) (be (ef (df_comp (ow := [("k", 4)]) rfl nd (ib (di_range2 (de_int) (de_b1 (cd_len hK) call_len (by rfl) z_len rfl (db_var (pv 2))) (by rfl) z_range)) (blkOk_by (by kernel_rfl)) (fun _ _ _ _ _ => dgo_name nd rfl (by first | exact .inl rfl | exact .inr rfl) (by decide)) (fun _ _ _ _ _ => dts_one (dt_cmp (od_ge hK) (op_geA hu) (be (de_ix hK hu (db_var (pv 2)) (be (de_op (od_sub) op_sub (db_var (pv 4)) (be (de_int)))))) (be (de_ix hK hu (db_var (pv 2)) (db_var (pv 4)))) (by rfl))) (fun _ _ _ _ _ => de_var (pv 4))))) (be (ef (df_lst (da_nil)))) (by rfl)))))
abbrev S__law_due : Stmt := topS 37
theorem sc__law_due : FnScope ["issues", "value", "k", "view", "j"] ["issues", "value"] (defScope S__law_due) := ⟨rfl, rfl, rfl, by decide +kernel, rfl, by decide +kernel, by decide +kernel⟩
theorem ok__law_due (ca : Nat → Addr) (z_isinstance : mg "isinstance" = none) (z_list : mg "list" = none) (c__law_is_view : Cal P w K mg base "_law_is_view" 2 2 (spD ⟨K, ca⟩ 2 C__law_is_view)) (z_len : mg "len" = none) (z_range : mg "range" = none) (c__law_order : Cal P w K mg base "_law_order" 2 1 (spF ⟨K, ca⟩ 1 C__law_order)) (c__law_has : Cal P w K mg base "_law_has" 1 2 (spD ⟨K, ca⟩ 2 C__law_has)) {f : Addr} {fd : FuncData} (F : Fun K "_law_due" "_law_due" S__law_due f fd) : FnOk P w K mg base (L2.CX P w) 3 f fd ["issues", "value"] (spD ⟨K, ca⟩ 2 C__law_due) :=
  fn_D (k := 2) F sc__law_due fun cdv A outer s H E hr => by
    have nd := (sc__law_due).nd
    have hK : K = K := rfl
    have hu := hr.units
    have hu1 := hu65 hr
    have tk := takes_of (X := cxOf (L2.CX P w) P w K mg base ["issues", "value", "k", "view", "j"] "_law_due" (defScope S__law_due) f cdv A outer s H E) rfl rfl rfl rfl
    exact dss_cons (ds_if (dt_w (dw_or (dt_not (dt_tru hK (be (de_isT (t := "list") (by rfl) z_isinstance (by decide +kernel) (db_var (pv 1)) (pe_tyn (by rfl) z_list rfl))))) (dw_or1 (dt_cmp (od_ne hK) (op_neA hu) (be (ef (df_comp (ow := [("view", 3)]) rfl nd (dib_all hK (db_var (pv 1))) (blkOk_by (by kernel_rfl)) (fun _ _ _ _ _ => dgo_name nd rfl (by first | exact .inl rfl | exact .inr rfl) (by decide)) (fun _ _ _ _ _ => dts_one (dt_w (dw_or (dt_not (dt_tru hK (be (de_call c__law_is_view (hr.mono (by decide)) takesN (by rfl) (da_cons (de_var (pv 0)) (da_cons (de_var (pv 3)) (da_nil))) (.cons (.cons LenA.nil)))))) (dw_or1 (dt_cmp (od_eq hK) (op_eqA hu) (db_var (pv 3)) (be (ef (df_lst (da_nil)))) (by rfl)))))) (fun _ _ _ _ _ => de_var (pv 3))))) (be (ef (df_lst (da_nil)))) (by rfl))))) (dss_one (ds_ret (de_bl))) (dss_nil)) (dss_cons (ds_for (passes_of rfl) rfl (di_range1 (de_b1 (cd_len hK) call_len (by rfl) z_len rfl (db_var (pv 1))) (by rfl) z_range) (dg_name nd rfl (by first | exact .inl rfl | exact .inr rfl)) (dss_cons (ds_if (dt_w (dw_and (dt_cmp (od_gt hK) (op_gtA hu) (db_var (pv 2)) (be (de_int)) (by rfl)) (dw_and1 (dt_cmp (od_le hK) (op_leA hu) (be (ef (df_call c__law_order (hr.mono (by decide)) tk (by rfl) (da_cons (de_ix hK hu (db_var (pv 1)) (db_var (pv 2))) (da_nil)) (.cons LenA.nil)))) (be (ef (df_call c__law_order (hr.mono (by decide)) tk (by rfl) (da_cons (de_ix hK hu (db_var (pv 1)) (be (de_op (od_sub) op_sub (db_var (pv 2)) (be (de_int))))) (da_nil)) (.cons LenA.nil)))) (by rfl))))) (dss_one (ds_ret (de_bl))) (dss_nil)) (dss_one (ds_if (dt_cmp (od_ne hK) (op_neA hu) (be (ef (df_comp (ow := [("j", 4)]) rfl nd (ib (di_range1 (de_b1 (cd_len hK) call_len (by rfl) z_len rfl (db_var (pv 1))) (by rfl) z_range)) (blkOk_by (by kernel_rfl)) (fun _ _ _ _ _ => dgo_name nd rfl (by first | exact .inl rfl | exact .inr rfl) (by decide)) (fun _ _ _ _ _ => dts_one (dt_w (dw_and (dt_cmp (od_ne hK) (op_neA hu) (db_var (pv 4)) (db_var (pv 2)) (by rfl)) (dw_and1 (dt_tru hK (be (de_call c__law_has (hr.mono (by decide)) takesN (by rfl) (da_cons (de_ix hK hu (db_var (pv 1)) (db_var (pv 2))) (da_cons (de_ix hK hu (db_var (pv 1)) (db_var (pv 4))) (da_nil))) (.cons (.cons LenA.nil))))))))) (fun _ _ _ _ _ => de_var (pv 4))))) (be (ef (df_lst (da_nil)))) (by rfl)) (dss_one (ds_ret (de_bl))) (dss_nil))))) (dss_one (ds_ret (de_bl))))
abbrev S__law_bent : Stmt := topS 38
theorem sc__law_bent : FnScope ["bars", "issues", "stranger", "n", "found", "at", "other", "view", "one", "free", "longer", "swapped", "issue"] ["bars", "issues", "stranger", "n"] (defScope S__law_bent) := ⟨rfl, rfl, rfl, by decide +kernel, rfl, by decide +kernel, by decide +kernel⟩
theorem ok__law_bent (ca : Nat → Addr) (z_tuple : mg "tuple" = none) (z_len : mg "len" = none) (c__law_opposite : Cal P w K mg base "_law_opposite" 1 1 (spD ⟨K, ca⟩ 1 C__law_opposite)) (c__law_view : Cal P w K mg base "_law_view" 2 1 (spF ⟨K, ca⟩ 1 C__law_view)) (c__law_sort : Cal P w K mg base "_law_sort" 3 1 (spF ⟨K, ca⟩ 1 C__law_sort)) (z_list : mg "list" = none) {f : Addr} {fd : FuncData} (F : Fun K "_law_bent" "_law_bent" S__law_bent f fd) : FnOk P w K mg base (L2.CX P w) 4 f fd ["bars", "issues", "stranger", "n"] (spD ⟨K, ca⟩ 4 C__law_bent) :=
  fn_D (k := 3) F sc__law_bent fun cdv A outer s H E hr => by
    have nd := (sc__law_bent).nd
    have hK : K = K := rfl
    have hu := hr.units
    have hu1 := hu65 hr
    have tk := takes_of (X := cxOf (L2.CX P w) P w K mg base ["bars", "issues", "stranger", "n", "found", "at", "other", "view", "one", "free", "longer", "swapped", "issue"] "_law_bent" (defScope S__law_bent) f cdv A outer s H E) rfl rfl rfl rfl
    exact dss_cons (ds_setO nd rfl (by first | exact .inl rfl | exact .inr rfl) (df_lst (da_cons (de_var (pv 0)) (da_cons (ef (df_rev (db_var (pv 0)))) (da_cons (de_slice hK (db_var (pv 0)) (do_some (de_int)) (do_none)) (da_cons (de_t1 (cd_tuple hK) call_tuple_of (by rfl) z_tuple rfl (db_var (pv 0))) (da_cons (de_non) (da_cons (de_int) (da_cons ((de_str)) (da_cons (ef (df_dctK)) (da_cons (ef (df_lst (da_cons (ef (df_lst (da_nil))) (da_nil)))) (da_cons (de_op (od_add hK) op_addA (db_var (pv 0)) (be (ef (df_lst (da_cons (ef (df_lst (da_nil))) (da_nil)))))) (da_cons (de_op (od_add hK) op_addA (be (ef (df_lst (da_cons (ef (df_lst (da_nil))) (da_nil))))) (db_var (pv 0))) (da_cons (de_op (od_add hK) op_addA (db_var (pv 0)) (be (ef (df_lst (da_cons (de_non) (da_nil)))))) (da_cons (ef (df_lst (da_cons (de_ix hK hu (db_var (pv 1)) (be (de_int))) (da_nil)))) (da_cons (ef (df_lst (da_cons (de_t1 (cd_tuple hK) call_tuple_of (by rfl) z_tuple rfl (be (de_slice hK (db_var (pv 1)) (do_none) (do_some (de_int))))) (da_nil)))) (da_nil))))))))))))))))) (dss_cons (ds_if (dt_cmp (od_eq hK) (op_eqA hu) (db_var (pv 0)) (be (ef (df_lst (da_nil)))) (by rfl)) (dss_one (ds_ret (de_op (od_add hK) op_addA (db_var (pv 4)) (be (ef (df_lst (da_cons (ef (df_lst (da_cons (ef (df_lst (da_cons (de_ix hK hu (db_var (pv 1)) (be (de_int))) (da_nil)))) (da_nil)))) (da_cons (ef (df_lst (da_cons (ef (df_lst (da_cons (de_ix hK hu (db_var (pv 1)) (be (de_neg (de_int)))) (da_nil)))) (da_cons (ef (df_lst (da_cons (de_op (od_add hK) op_addA (be ((de_str))) (be (de_ix hK hu (db_var (pv 1)) (be (de_neg (de_int)))))) (da_nil)))) (da_nil))))) (da_cons (ef (df_lst (da_cons (ef (df_lst (da_cons (de_op (od_add hK) op_addA (be ((de_str))) (be (de_ix hK hu (db_var (pv 1)) (be (de_neg (de_int)))))) (da_nil)))) (da_cons (ef (df_lst (da_cons (de_ix hK hu (db_var (pv 1)) (be (de_neg (de_int)))) (da_nil)))) (da_nil))))) (da_nil)))))))))) (dss_nil)) (dss_cons (ds_par2 rfl nd rfl rfl (by decide) rfl rfl (da_cons (de_op (od_mod) op_mod (be (de_ix hK hu (db_var (pv 3)) (be (de_int)))) (be (de_b1 (cd_len hK) call_len (by rfl) z_len rfl (db_var (pv 0))))) (da_cons (de_op (od_mod) op_mod (be (de_ix hK hu (db_var (pv 3)) (be (de_int)))) (be (de_b1 (cd_len hK) call_len (by rfl) z_len rfl (db_var (pv 0))))) (da_nil))) (by rfl)) (dss_cons (ds_set nd rfl (by first | exact .inl rfl | exact .inr rfl) (de_ix hK hu (db_var (pv 0)) (db_var (pv 5)))) (dss_cons (ds_for (passes_of rfl) rfl (di_all hK (ef (df_lst (da_cons (de_slice hK (db_var (pv 7)) (do_some (de_int)) (do_none)) (da_cons (de_slice hK (db_var (pv 7)) (do_none) (do_some (de_neg (de_int)))) (da_cons (de_op (od_add hK) op_addA (be (ef (df_lst (da_cons (de_call c__law_opposite (hr.mono (by decide)) tk (by rfl) (da_cons (de_ix hK hu (db_var (pv 7)) (be (de_int))) (da_nil)) (.cons LenA.nil)) (da_nil))))) (be (de_slice hK (db_var (pv 7)) (do_some (de_int)) (do_none)))) (da_cons (de_op (od_add hK) op_addA (db_var (pv 7)) (be (ef (df_lst (da_cons (de_var (pv 2)) (da_nil)))))) (da_cons (ef (df_lst (da_cons (de_var (pv 2)) (da_nil)))) (da_cons (de_t1 (cd_tuple hK) call_tuple_of (by rfl) z_tuple rfl (db_var (pv 7))) (da_cons (de_non) (da_cons (de_op (od_add hK) op_addA (db_var (pv 7)) (db_var (pv 7))) (da_cons (ef (df_rev (db_var (pv 7)))) (da_cons (de_join hK (be ((de_str))) (db_var (pv 7))) (da_cons (ef (df_lst (da_cons (de_non) (da_nil)))) (da_nil))))))))))))))) (dg_name nd rfl (by first | exact .inl rfl | exact .inr rfl)) (dss_one (ds_app (pv 4) (de_op (od_add hK) op_addA (be (de_op (od_add hK) op_addA (be (de_slice hK (db_var (pv 0)) (do_none) (do_some (de_var (pv 5))))) (be (ef (df_lst (da_cons (de_var (pv 8)) (da_nil))))))) (be (de_slice hK (db_var (pv 0)) (do_some (de_op (od_add hK) op_addA (db_var (pv 5)) (be (de_int)))) (do_none))))))) (dss_cons (ds_comp (ow := [("issue", 12)]) rfl nd rfl rfl (by rfl) (dib_all hK (db_var (pv 1))) (blkOk_by (by kernel_rfl)) (fun _ _ _ _ _ => dgo_name nd rfl (by first | exact .inl rfl | exact .inr rfl) (by decide)) (fun _ _ _ _ _ => dts_one (dt_w (dw_and (dt_cmp (od_notIn hK) (op_notInA hu1) (db_var (pv 12)) (db_var (pv 7)) (by rfl)) (dw_and1 (dt_cmp (od_notIn hK) (op_notInA hu1) (be (de_op (od_add hK) op_addA (be ((de_str))) (db_var (pv 12)))) (db_var (pv 7)) (by rfl)))))) (fun _ _ _ _ _ => de_var (pv 12))) (dss_cons (ds_if (dt_cmp (od_ne hK) (op_neA hu) (db_var (pv 9)) (be (ef (df_lst (da_nil)))) (by rfl)) (dss_cons (ds_set nd rfl (by first | exact .inl rfl | exact .inr rfl) (ef (df_call c__law_view (hr.mono (by decide)) tk (by rfl) (da_cons (de_op (od_add hK) op_addA (db_var (pv 7)) (be (ef (df_lst (da_cons (de_ix hK hu (db_var (pv 9)) (be (de_op (od_mod) op_mod (be (de_ix hK hu (db_var (pv 3)) (be (de_int)))) (be (de_b1 (cd_len hK) call_len (by rfl) z_len rfl (db_var (pv 9))))))) (da_nil)))))) (da_nil)) (.cons LenA.nil)))) (dss_one (ds_setO nd rfl (by first | exact .inl rfl | exact .inr rfl) (df_op of_cat op_cat (db_var (pv 4)) (be (ef (df_lst (da_cons (ef (df_call c__law_sort (hr.mono (by decide)) tk (by rfl) (da_cons (de_op (od_add hK) op_addA (db_var (pv 0)) (be (ef (df_lst (da_cons (de_var (pv 10)) (da_nil)))))) (da_nil)) (.cons LenA.nil))) (da_cons (de_op (od_add hK) op_addA (be (de_op (od_add hK) op_addA (be (de_slice hK (db_var (pv 0)) (do_none) (do_some (de_var (pv 5))))) (be (ef (df_lst (da_cons (de_var (pv 10)) (da_nil))))))) (be (de_slice hK (db_var (pv 0)) (do_some (de_op (od_add hK) op_addA (db_var (pv 5)) (be (de_int)))) (do_none)))) (da_nil)))))))))) (dss_nil)) (dss_cons (ds_setO nd rfl (by first | exact .inl rfl | exact .inr rfl) (df_t1 (cf_list hK) call_list_of (by rfl) z_list rfl (db_var (pv 0)))) (dss_cons (ds_asg (de_tup (da_cons (de_ix hK hu (db_var (pv 0)) (db_var (pv 6))) (da_cons (de_ix hK hu (db_var (pv 0)) (db_var (pv 5))) (da_nil)))) (dg_tup hK rfl (dgs_cons (dg_put (W := W0) hu (pv 11) (de_var (pv 5))) (dgs_cons (dg_put (W := W0) hu (pv 11) (de_var (pv 6))) (dgs_nil))))) (dss_one (ds_frz (ds_ret (de_op (od_add hK) op_addA (db_var (pv 4)) (be (ef (df_lst (da_cons (de_var (pv 11)) (da_cons (de_op (od_add hK) op_addA (be (de_op (od_add hK) op_addA (be (de_slice hK (db_var (pv 0)) (do_none) (do_some (de_var (pv 5))))) (be (ef (df_lst (da_cons (de_var (pv 7)) (da_nil))))))) (be (de_slice hK (db_var (pv 0)) (do_some (de_var (pv 5))) (do_none)))) (da_cons (de_op (od_add hK) op_addA (be (de_slice hK (db_var (pv 0)) (do_none) (do_some (de_var (pv 5))))) (be (de_slice hK (db_var (pv 0)) (do_some (de_op (od_add hK) op_addA (db_var (pv 5)) (be (de_int)))) (do_none)))) (da_cons (ef (df_lst (da_cons (de_var (pv 7)) (da_nil)))) (da_nil))))))))))))))))))))
abbrev S_law : Stmt := topS 39
theorem sc_law : FnScope ["script", "n", "issues", "opinions", "least", "drawn", "views", "k", "view", "stranger", "bars", "value", "given", "one"] ["script"] (defScope S_law) := ⟨rfl, rfl, rfl, by decide +kernel, rfl, by decide +kernel, by decide +kernel⟩
theorem ok_law (ca : Nat → Addr) (c__law_numbers : Cal P w K mg base "_law_numbers" 1 3 (spF ⟨K, ca⟩ 3 C__law_numbers)) (c__law_agenda : Cal P w K mg base "_law_agenda" 3 3 (spD ⟨K, ca⟩ 3 C__law_agenda)) (c__law_hanging : Cal P w K mg base "_law_hanging" 1 1 (spF ⟨K, ca⟩ 1 C__law_hanging)) (c__law_least : Cal P w K mg base "_law_least" 4 2 (spF ⟨K, ca⟩ 2 C__law_least)) (c__law_views : Cal P w K mg base "_law_views" 1 1 (spD ⟨K, ca⟩ 1 C__law_views)) (z_list : mg "list" = none) (z_range : mg "range" = none) (z_len : mg "len" = none) (c__law_has : Cal P w K mg base "_law_has" 1 2 (spD ⟨K, ca⟩ 2 C__law_has)) (c__law_sort : Cal P w K mg base "_law_sort" 3 1 (spF ⟨K, ca⟩ 1 C__law_sort)) (c__law_stranger : Cal P w K mg base "_law_stranger" 1 2 (spD ⟨K, ca⟩ 2 C__law_stranger)) (c__law_bent : Cal P w K mg base "_law_bent" 4 4 (spD ⟨K, ca⟩ 4 C__law_bent)) (z_isinstance : mg "isinstance" = none) (c_is_barring : Cal P w K mg base "is_barring" 7 2 (spD ⟨K, ca⟩ 2 C_is_barring)) (c__law_due : Cal P w K mg base "_law_due" 3 2 (spD ⟨K, ca⟩ 2 C__law_due)) (c__law_says : Cal P w K mg base "_law_says" 1 2 (spD ⟨K, ca⟩ 2 C__law_says)) {f : Addr} {fd : FuncData} (F : Fun K "law" "law" S_law f fd) : FnOk P w K mg base (L2.CX P w) 8 f fd ["script"] (spD ⟨K, ca⟩ 1 C_law) :=
  fn_D (k := 7) F sc_law fun cdv A outer s H E hr => by
    have nd := (sc_law).nd
    have hK : K = K := rfl
    have hu := hr.units
    have hu1 := hu65 hr
    have tk := takes_of (X := cxOf (L2.CX P w) P w K mg base ["script", "n", "issues", "opinions", "least", "drawn", "views", "k", "view", "stranger", "bars", "value", "given", "one"] "law" (defScope S_law) f cdv A outer s H E) rfl rfl rfl rfl
    exact dss_cons (ds_set nd rfl (by first | exact .inl rfl | exact .inr rfl) (ef (df_call c__law_numbers (hr.mono (by decide)) tk (by rfl) (da_cons (de_var (pv 0)) (da_cons (de_int) (da_cons (de_int) (da_nil)))) (.cons (.cons (.cons LenA.nil)))))) (dss_cons (ds_asg (de_call c__law_agenda (hr.mono (by decide)) tk (by rfl) (da_cons (de_var (pv 0)) (da_cons (de_int) (da_cons (de_int) (da_nil)))) (.cons (.cons (.cons LenA.nil)))) (dg_tup hK rfl (dgs_cons (dg_name nd rfl (by first | exact .inl rfl | exact .inr rfl)) (dgs_cons (dg_name nd rfl (by first | exact .inl rfl | exact .inr rfl)) (dgs_nil))))) (dss_cons (ds_set nd rfl (by first | exact .inl rfl | exact .inr rfl) (ef (df_call c__law_least (hr.mono (by decide)) tk (by rfl) (da_cons (de_var (pv 2)) (da_cons (ef (df_call c__law_hanging (hr.mono (by decide)) tk (by rfl) (da_cons (de_var (pv 3)) (da_nil)) (.cons LenA.nil))) (da_nil))) (.cons (.cons LenA.nil))))) (dss_cons (ds_set nd rfl (by first | exact .inl rfl | exact .inr rfl) (ef (df_lst (da_nil)))) (dss_cons (ds_set nd rfl (by first | exact .inl rfl | exact .inr rfl) (de_slice hK (be (ef (df_comp (ow := [("view", 8)]) rfl nd (dib_all hK (be (de_call c__law_views (hr.mono (by decide)) tk (by rfl) (da_cons (de_var (pv 2)) (da_nil)) (.cons LenA.nil)))) (blkOk_by (by kernel_rfl)) (fun _ _ _ _ _ => dgo_name nd rfl (by first | exact .inl rfl | exact .inr rfl) (by decide)) (fun _ _ _ _ _ => dts_nil) (fun _ _ _ _ _ => ef (df_t1 (cf_list hK) call_list_of (by rfl) z_list rfl (db_var (pv 8))))))) (do_some (de_int)) (do_none))) (dss_cons (ds_for (passes_of rfl) rfl (di_range1 (de_op (od_mod) op_mod (be (de_ix hK hu (db_var (pv 1)) (be (de_int)))) (be (de_int))) (by rfl) z_range) (dg_name nd rfl (by first | exact .inl rfl | exact .inr rfl)) (dss_cons (ds_set nd rfl (by first | exact .inl rfl | exact .inr rfl) (de_ix hK hu (db_var (pv 6)) (be (de_op (od_mod) op_mod (be (de_op (od_add hK) op_addA (be (de_op (od_mul) op_mulA (be (de_ix hK hu (db_var (pv 1)) (be (de_op (od_add hK) op_addA (be (de_int)) (db_var (pv 7)))))) (be (de_int)))) (db_var (pv 7)))) (be (de_b1 (cd_len hK) call_len (by rfl) z_len rfl (db_var (pv 6)))))))) (dss_one (ds_if (dt_cmp (od_eq hK) (op_eqA hu) (be (ef (df_comp (ow := [("one", 13)]) rfl nd (dib_all hK (db_var (pv 5))) (blkOk_by (by kernel_rfl)) (fun _ _ _ _ _ => dgo_name nd rfl (by first | exact .inl rfl | exact .inr rfl) (by decide)) (fun _ _ _ _ _ => dts_one (dt_w (dw_or (dt_tru hK (be (de_call c__law_has (hr.mono (by decide)) takesN (by rfl) (da_cons (de_var (pv 13)) (da_cons (de_var (pv 8)) (da_nil))) (.cons (.cons LenA.nil))))) (dw_or1 (dt_tru hK (be (de_call c__law_has (hr.mono (by decide)) takesN (by rfl) (da_cons (de_var (pv 8)) (da_cons (de_var (pv 13)) (da_nil))) (.cons (.cons LenA.nil))))))))) (fun _ _ _ _ _ => de_var (pv 13))))) (be (ef (df_lst (da_nil)))) (by rfl)) (dss_one (ds_set nd rfl (by first | exact .inl rfl | exact .inr rfl) (ef (df_call c__law_sort (hr.mono (by decide)) tk (by rfl) (da_cons (de_op (od_add hK) op_addA (db_var (pv 5)) (be (ef (df_lst (da_cons (de_var (pv 8)) (da_nil)))))) (da_nil)) (.cons LenA.nil))))) (dss_nil))))) (dss_cons (ds_set nd rfl (by first | exact .inl rfl | exact .inr rfl) (de_call c__law_stranger (hr.mono (by decide)) tk (by rfl) (da_cons (de_var (pv 2)) (da_cons (de_ix hK hu (db_var (pv 1)) (be (de_int))) (da_nil))) (.cons (.cons LenA.nil)))) (dss_cons (ds_for (passes_of rfl) rfl (di_all hK (ef (df_lst (da_cons (de_slice hK (db_var (pv 4)) (do_none) (do_some (de_int))) (da_cons (de_var (pv 5)) (da_cons (ef (df_lst (da_nil))) (da_nil))))))) (dg_name nd rfl (by first | exact .inl rfl | exact .inr rfl)) (dss_one (ds_for (passes_of rfl) rfl (di_all hK (de_call c__law_bent (hr.mono (by decide)) tk (by rfl) (da_cons (de_var (pv 10)) (da_cons (de_var (pv 2)) (da_cons (de_var (pv 9)) (da_cons (de_slice hK (db_var (pv 1)) (do_some (de_int)) (do_some (de_int))) (da_nil))))) (.cons (.cons (.cons (.cons LenA.nil)))))) (dg_name nd rfl (by first | exact .inl rfl | exact .inr rfl)) (dss_cons (ds_set nd rfl (by first | exact .inl rfl | exact .inr rfl) (de_var (pv 11))) (dss_cons (ds_if (dt_tru hK (be (de_isT (t := "list") (by rfl) z_isinstance (by decide +kernel) (db_var (pv 11)) (pe_tyn (by rfl) z_list rfl)))) (dss_one (ds_set nd rfl (by first | exact .inl rfl | exact .inr rfl) (ef (df_t1 (cf_list hK) call_list_of (by rfl) z_list rfl (db_var (pv 11)))))) (dss_nil)) (dss_one (ds_if (dt_w (dw_or (dt_not (dt_tru hK (be (de_call c__law_says (hr.mono (by decide)) tk (by rfl) (da_cons (de_call c_is_barring (hr.mono (by decide)) tk (by rfl) (da_cons (ef (df_t1 (cf_list hK) call_list_of (by rfl) z_list rfl (db_var (pv 2)))) (da_cons (de_var (pv 12)) (da_nil))) (.cons (.cons LenA.nil))) (da_cons (de_call c__law_due (hr.mono (by decide)) tk (by rfl) (da_cons (de_var (pv 2)) (da_cons (de_var (pv 11)) (da_nil))) (.cons (.cons LenA.nil))) (da_nil))) (.cons (.cons LenA.nil)))))) (dw_or1 (dt_cmp (od_ne hK) (op_neA hu) (db_var (pv 12)) (db_var (pv 11)) (by rfl))))) (dss_one (ds_ret (de_bl))) (dss_nil)))))))) (dss_one (ds_ret (de_call c__law_says (hr.mono (by decide)) tk (by rfl) (da_cons (de_call c_is_barring (hr.mono (by decide)) tk (by rfl) (da_cons (de_var (pv 2)) (da_cons (de_var (pv 4)) (da_nil))) (.cons (.cons LenA.nil))) (da_cons (de_bl) (da_nil))) (.cons (.cons LenA.nil))))))))))))
end
theorem all_mk {w : World} {K : PySem.W.Frag} {h : Heap} {mg : Str → Option Value} {fa : Addr} (X : K.In h) (G : h.Ns mainGlobals mg) (hfa : mg "law" = some (.ref fa))
    {f0 : Addr} {od0 an0 : Option Addr} {sl0 : Array (Option Value)} {oc0 kV0 dc0 pm0 cd0 ct0 : Value}
    (a0 : PySem.W.nsIn K mainGlobals "is_yes" = some (some (.ref f0))) (l0 : K.lookup f0 = some ⟨oc0, od0, .func (PySem.W.fnOf "is_yes" "is_yes" (defArgs S_is_yes) (defBody S_is_yes) (defScope S_is_yes) .none kV0 dc0 pm0 an0 cd0 ct0), sl0⟩) (c0 : PySem.W.codeIn K cd0 "is_yes" = true) (k0 : PySem.W.keepIn K (.ref f0) = true)
    {f1 : Addr} {od1 an1 : Option Addr} {sl1 : Array (Option Value)} {oc1 kV1 dc1 pm1 cd1 ct1 : Value}
    (a1 : PySem.W.nsIn K mainGlobals "issue_of" = some (some (.ref f1))) (l1 : K.lookup f1 = some ⟨oc1, od1, .func (PySem.W.fnOf "issue_of" "issue_of" (defArgs S_issue_of) (defBody S_issue_of) (defScope S_issue_of) .none kV1 dc1 pm1 an1 cd1 ct1), sl1⟩) (c1 : PySem.W.codeIn K cd1 "issue_of" = true) (k1 : PySem.W.keepIn K (.ref f1) = true)
    {f2 : Addr} {od2 an2 : Option Addr} {sl2 : Array (Option Value)} {oc2 kV2 dc2 pm2 cd2 ct2 : Value}
    (a2 : PySem.W.nsIn K mainGlobals "place_of" = some (some (.ref f2))) (l2 : K.lookup f2 = some ⟨oc2, od2, .func (PySem.W.fnOf "place_of" "place_of" (defArgs S_place_of) (defBody S_place_of) (defScope S_place_of) .none kV2 dc2 pm2 an2 cd2 ct2), sl2⟩) (c2 : PySem.W.codeIn K cd2 "place_of" = true) (k2 : PySem.W.keepIn K (.ref f2) = true)
    {f3 : Addr} {od3 an3 : Option Addr} {sl3 : Array (Option Value)} {oc3 kV3 dc3 pm3 cd3 ct3 : Value}
    (a3 : PySem.W.nsIn K mainGlobals "order_of" = some (some (.ref f3))) (l3 : K.lookup f3 = some ⟨oc3, od3, .func (PySem.W.fnOf "order_of" "order_of" (defArgs S_order_of) (defBody S_order_of) (defScope S_order_of) .none kV3 dc3 pm3 an3 cd3 ct3), sl3⟩) (c3 : PySem.W.codeIn K cd3 "order_of" = true) (k3 : PySem.W.keepIn K (.ref f3) = true)
    {f4 : Addr} {od4 an4 : Option Addr} {sl4 : Array (Option Value)} {oc4 kV4 dc4 pm4 cd4 ct4 : Value}
    (a4 : PySem.W.nsIn K mainGlobals "holds" = some (some (.ref f4))) (l4 : K.lookup f4 = some ⟨oc4, od4, .func (PySem.W.fnOf "holds" "holds" (defArgs S_holds) (defBody S_holds) (defScope S_holds) .none kV4 dc4 pm4 an4 cd4 ct4), sl4⟩) (c4 : PySem.W.codeIn K cd4 "holds" = true) (k4 : PySem.W.keepIn K (.ref f4) = true)
    {f5 : Addr} {od5 an5 : Option Addr} {sl5 : Array (Option Value)} {oc5 kV5 dc5 pm5 cd5 ct5 : Value}
    (a5 : PySem.W.nsIn K mainGlobals "is_ascending" = some (some (.ref f5))) (l5 : K.lookup f5 = some ⟨oc5, od5, .func (PySem.W.fnOf "is_ascending" "is_ascending" (defArgs S_is_ascending) (defBody S_is_ascending) (defScope S_is_ascending) .none kV5 dc5 pm5 an5 cd5 ct5), sl5⟩) (c5 : PySem.W.codeIn K cd5 "is_ascending" = true) (k5 : PySem.W.keepIn K (.ref f5) = true)
    {f6 : Addr} {od6 an6 : Option Addr} {sl6 : Array (Option Value)} {oc6 kV6 dc6 pm6 cd6 ct6 : Value}
    (a6 : PySem.W.nsIn K mainGlobals "is_verdict" = some (some (.ref f6))) (l6 : K.lookup f6 = some ⟨oc6, od6, .func (PySem.W.fnOf "is_verdict" "is_verdict" (defArgs S_is_verdict) (defBody S_is_verdict) (defScope S_is_verdict) .none kV6 dc6 pm6 an6 cd6 ct6), sl6⟩) (c6 : PySem.W.codeIn K cd6 "is_verdict" = true) (k6 : PySem.W.keepIn K (.ref f6) = true)
    {f7 : Addr} {od7 an7 : Option Addr} {sl7 : Array (Option Value)} {oc7 kV7 dc7 pm7 cd7 ct7 : Value}
    (a7 : PySem.W.nsIn K mainGlobals "is_view_of" = some (some (.ref f7))) (l7 : K.lookup f7 = some ⟨oc7, od7, .func (PySem.W.fnOf "is_view_of" "is_view_of" (defArgs S_is_view_of) (defBody S_is_view_of) (defScope S_is_view_of) .none kV7 dc7 pm7 an7 cd7 ct7), sl7⟩) (c7 : PySem.W.codeIn K cd7 "is_view_of" = true) (k7 : PySem.W.keepIn K (.ref f7) = true)
    {f8 : Addr} {od8 an8 : Option Addr} {sl8 : Array (Option Value)} {oc8 kV8 dc8 pm8 cd8 ct8 : Value}
    (a8 : PySem.W.nsIn K mainGlobals "holds_some" = some (some (.ref f8))) (l8 : K.lookup f8 = some ⟨oc8, od8, .func (PySem.W.fnOf "holds_some" "holds_some" (defArgs S_holds_some) (defBody S_holds_some) (defScope S_holds_some) .none kV8 dc8 pm8 an8 cd8 ct8), sl8⟩) (c8 : PySem.W.codeIn K cd8 "holds_some" = true) (k8 : PySem.W.keepIn K (.ref f8) = true)
    {f9 : Addr} {od9 an9 : Option Addr} {sl9 : Array (Option Value)} {oc9 kV9 dc9 pm9 cd9 ct9 : Value}
    (a9 : PySem.W.nsIn K mainGlobals "is_bar" = some (some (.ref f9))) (l9 : K.lookup f9 = some ⟨oc9, od9, .func (PySem.W.fnOf "is_bar" "is_bar" (defArgs S_is_bar) (defBody S_is_bar) (defScope S_is_bar) .none kV9 dc9 pm9 an9 cd9 ct9), sl9⟩) (c9 : PySem.W.codeIn K cd9 "is_bar" = true) (k9 : PySem.W.keepIn K (.ref f9) = true)
    {f10 : Addr} {od10 an10 : Option Addr} {sl10 : Array (Option Value)} {oc10 kV10 dc10 pm10 cd10 ct10 : Value}
    (a10 : PySem.W.nsIn K mainGlobals "none_holds_another" = some (some (.ref f10))) (l10 : K.lookup f10 = some ⟨oc10, od10, .func (PySem.W.fnOf "none_holds_another" "none_holds_another" (defArgs S_none_holds_another) (defBody S_none_holds_another) (defScope S_none_holds_another) .none kV10 dc10 pm10 an10 cd10 ct10), sl10⟩) (c10 : PySem.W.codeIn K cd10 "none_holds_another" = true) (k10 : PySem.W.keepIn K (.ref f10) = true)
    {f11 : Addr} {od11 an11 : Option Addr} {sl11 : Array (Option Value)} {oc11 kV11 dc11 pm11 cd11 ct11 : Value}
    (a11 : PySem.W.nsIn K mainGlobals "are_bars" = some (some (.ref f11))) (l11 : K.lookup f11 = some ⟨oc11, od11, .func (PySem.W.fnOf "are_bars" "are_bars" (defArgs S_are_bars) (defBody S_are_bars) (defScope S_are_bars) .none kV11 dc11 pm11 an11 cd11 ct11), sl11⟩) (c11 : PySem.W.codeIn K cd11 "are_bars" = true) (k11 : PySem.W.keepIn K (.ref f11) = true)
    {f12 : Addr} {od12 an12 : Option Addr} {sl12 : Array (Option Value)} {oc12 kV12 dc12 pm12 cd12 ct12 : Value}
    (a12 : PySem.W.nsIn K mainGlobals "is_barring" = some (some (.ref f12))) (l12 : K.lookup f12 = some ⟨oc12, od12, .func (PySem.W.fnOf "is_barring" "is_barring" (defArgs S_is_barring) (defBody S_is_barring) (defScope S_is_barring) .none kV12 dc12 pm12 an12 cd12 ct12), sl12⟩) (c12 : PySem.W.codeIn K cd12 "is_barring" = true) (k12 : PySem.W.keepIn K (.ref f12) = true)
    {f13 : Addr} {od13 an13 : Option Addr} {sl13 : Array (Option Value)} {oc13 kV13 dc13 pm13 cd13 ct13 : Value}
    (a13 : PySem.W.nsIn K mainGlobals "_law_numbers" = some (some (.ref f13))) (l13 : K.lookup f13 = some ⟨oc13, od13, .func (PySem.W.fnOf "_law_numbers" "_law_numbers" (defArgs S__law_numbers) (defBody S__law_numbers) (defScope S__law_numbers) .none kV13 dc13 pm13 an13 cd13 ct13), sl13⟩) (c13 : PySem.W.codeIn K cd13 "_law_numbers" = true) (k13 : PySem.W.keepIn K (.ref f13) = true)
    {f14 : Addr} {od14 an14 : Option Addr} {sl14 : Array (Option Value)} {oc14 kV14 dc14 pm14 cd14 ct14 : Value}
    (a14 : PySem.W.nsIn K mainGlobals "_law_name" = some (some (.ref f14))) (l14 : K.lookup f14 = some ⟨oc14, od14, .func (PySem.W.fnOf "_law_name" "_law_name" (defArgs S__law_name) (defBody S__law_name) (defScope S__law_name) .none kV14 dc14 pm14 an14 cd14 ct14), sl14⟩) (c14 : PySem.W.codeIn K cd14 "_law_name" = true) (k14 : PySem.W.keepIn K (.ref f14) = true)
    {f15 : Addr} {od15 an15 : Option Addr} {sl15 : Array (Option Value)} {oc15 kV15 dc15 pm15 cd15 ct15 : Value}
    (a15 : PySem.W.nsIn K mainGlobals "_law_names" = some (some (.ref f15))) (l15 : K.lookup f15 = some ⟨oc15, od15, .func (PySem.W.fnOf "_law_names" "_law_names" (defArgs S__law_names) (defBody S__law_names) (defScope S__law_names) .none kV15 dc15 pm15 an15 cd15 ct15), sl15⟩) (c15 : PySem.W.codeIn K cd15 "_law_names" = true) (k15 : PySem.W.keepIn K (.ref f15) = true)
    {f16 : Addr} {od16 an16 : Option Addr} {sl16 : Array (Option Value)} {oc16 kV16 dc16 pm16 cd16 ct16 : Value}
    (a16 : PySem.W.nsIn K mainGlobals "_law_says" = some (some (.ref f16))) (l16 : K.lookup f16 = some ⟨oc16, od16, .func (PySem.W.fnOf "_law_says" "_law_says" (defArgs S__law_says) (defBody S__law_says) (defScope S__law_says) .none kV16 dc16 pm16 an16 cd16 ct16), sl16⟩) (c16 : PySem.W.codeIn K cd16 "_law_says" = true) (k16 : PySem.W.keepIn K (.ref f16) = true)
    {f17 : Addr} {od17 an17 : Option Addr} {sl17 : Array (Option Value)} {oc17 kV17 dc17 pm17 cd17 ct17 : Value}
    (a17 : PySem.W.nsIn K mainGlobals "_law_issue" = some (some (.ref f17))) (l17 : K.lookup f17 = some ⟨oc17, od17, .func (PySem.W.fnOf "_law_issue" "_law_issue" (defArgs S__law_issue) (defBody S__law_issue) (defScope S__law_issue) .none kV17 dc17 pm17 an17 cd17 ct17), sl17⟩) (c17 : PySem.W.codeIn K cd17 "_law_issue" = true) (k17 : PySem.W.keepIn K (.ref f17) = true)
    {f18 : Addr} {od18 an18 : Option Addr} {sl18 : Array (Option Value)} {oc18 kV18 dc18 pm18 cd18 ct18 : Value}
    (a18 : PySem.W.nsIn K mainGlobals "_law_opposite" = some (some (.ref f18))) (l18 : K.lookup f18 = some ⟨oc18, od18, .func (PySem.W.fnOf "_law_opposite" "_law_opposite" (defArgs S__law_opposite) (defBody S__law_opposite) (defScope S__law_opposite) .none kV18 dc18 pm18 an18 cd18 ct18), sl18⟩) (c18 : PySem.W.codeIn K cd18 "_law_opposite" = true) (k18 : PySem.W.keepIn K (.ref f18) = true)
    {f19 : Addr} {od19 an19 : Option Addr} {sl19 : Array (Option Value)} {oc19 kV19 dc19 pm19 cd19 ct19 : Value}
    (a19 : PySem.W.nsIn K mainGlobals "_law_order" = some (some (.ref f19))) (l19 : K.lookup f19 = some ⟨oc19, od19, .func (PySem.W.fnOf "_law_order" "_law_order" (defArgs S__law_order) (defBody S__law_order) (defScope S__law_order) .none kV19 dc19 pm19 an19 cd19 ct19), sl19⟩) (c19 : PySem.W.codeIn K cd19 "_law_order" = true) (k19 : PySem.W.keepIn K (.ref f19) = true)
    {f20 : Addr} {od20 an20 : Option Addr} {sl20 : Array (Option Value)} {oc20 kV20 dc20 pm20 cd20 ct20 : Value}
    (a20 : PySem.W.nsIn K mainGlobals "_law_sort" = some (some (.ref f20))) (l20 : K.lookup f20 = some ⟨oc20, od20, .func (PySem.W.fnOf "_law_sort" "_law_sort" (defArgs S__law_sort) (defBody S__law_sort) (defScope S__law_sort) .none kV20 dc20 pm20 an20 cd20 ct20), sl20⟩) (c20 : PySem.W.codeIn K cd20 "_law_sort" = true) (k20 : PySem.W.keepIn K (.ref f20) = true)
    {f21 : Addr} {od21 an21 : Option Addr} {sl21 : Array (Option Value)} {oc21 kV21 dc21 pm21 cd21 ct21 : Value}
    (a21 : PySem.W.nsIn K mainGlobals "_law_view" = some (some (.ref f21))) (l21 : K.lookup f21 = some ⟨oc21, od21, .func (PySem.W.fnOf "_law_view" "_law_view" (defArgs S__law_view) (defBody S__law_view) (defScope S__law_view) .none kV21 dc21 pm21 an21 cd21 ct21), sl21⟩) (c21 : PySem.W.codeIn K cd21 "_law_view" = true) (k21 : PySem.W.keepIn K (.ref f21) = true)
    {f22 : Addr} {od22 an22 : Option Addr} {sl22 : Array (Option Value)} {oc22 kV22 dc22 pm22 cd22 ct22 : Value}
    (a22 : PySem.W.nsIn K mainGlobals "_law_rows" = some (some (.ref f22))) (l22 : K.lookup f22 = some ⟨oc22, od22, .func (PySem.W.fnOf "_law_rows" "_law_rows" (defArgs S__law_rows) (defBody S__law_rows) (defScope S__law_rows) .none kV22 dc22 pm22 an22 cd22 ct22), sl22⟩) (c22 : PySem.W.codeIn K cd22 "_law_rows" = true) (k22 : PySem.W.keepIn K (.ref f22) = true)
    {f23 : Addr} {od23 an23 : Option Addr} {sl23 : Array (Option Value)} {oc23 kV23 dc23 pm23 cd23 ct23 : Value}
    (a23 : PySem.W.nsIn K mainGlobals "_law_has" = some (some (.ref f23))) (l23 : K.lookup f23 = some ⟨oc23, od23, .func (PySem.W.fnOf "_law_has" "_law_has" (defArgs S__law_has) (defBody S__law_has) (defScope S__law_has) .none kV23 dc23 pm23 an23 cd23 ct23), sl23⟩) (c23 : PySem.W.codeIn K cd23 "_law_has" = true) (k23 : PySem.W.keepIn K (.ref f23) = true)
    {f24 : Addr} {od24 an24 : Option Addr} {sl24 : Array (Option Value)} {oc24 kV24 dc24 pm24 cd24 ct24 : Value}
    (a24 : PySem.W.nsIn K mainGlobals "_law_hanging" = some (some (.ref f24))) (l24 : K.lookup f24 = some ⟨oc24, od24, .func (PySem.W.fnOf "_law_hanging" "_law_hanging" (defArgs S__law_hanging) (defBody S__law_hanging) (defScope S__law_hanging) .none kV24 dc24 pm24 an24 cd24 ct24), sl24⟩) (c24 : PySem.W.codeIn K cd24 "_law_hanging" = true) (k24 : PySem.W.keepIn K (.ref f24) = true)
    {f25 : Addr} {od25 an25 : Option Addr} {sl25 : Array (Option Value)} {oc25 kV25 dc25 pm25 cd25 ct25 : Value}
    (a25 : PySem.W.nsIn K mainGlobals "_law_views" = some (some (.ref f25))) (l25 : K.lookup f25 = some ⟨oc25, od25, .func (PySem.W.fnOf "_law_views" "_law_views" (defArgs S__law_views) (defBody S__law_views) (defScope S__law_views) .none kV25 dc25 pm25 an25 cd25 ct25), sl25⟩) (c25 : PySem.W.codeIn K cd25 "_law_views" = true) (k25 : PySem.W.keepIn K (.ref f25) = true)
    {f26 : Addr} {od26 an26 : Option Addr} {sl26 : Array (Option Value)} {oc26 kV26 dc26 pm26 cd26 ct26 : Value}
    (a26 : PySem.W.nsIn K mainGlobals "_law_least" = some (some (.ref f26))) (l26 : K.lookup f26 = some ⟨oc26, od26, .func (PySem.W.fnOf "_law_least" "_law_least" (defArgs S__law_least) (defBody S__law_least) (defScope S__law_least) .none kV26 dc26 pm26 an26 cd26 ct26), sl26⟩) (c26 : PySem.W.codeIn K cd26 "_law_least" = true) (k26 : PySem.W.keepIn K (.ref f26) = true)
    {f27 : Addr} {od27 an27 : Option Addr} {sl27 : Array (Option Value)} {oc27 kV27 dc27 pm27 cd27 ct27 : Value}
    (a27 : PySem.W.nsIn K mainGlobals "_law_agenda" = some (some (.ref f27))) (l27 : K.lookup f27 = some ⟨oc27, od27, .func (PySem.W.fnOf "_law_agenda" "_law_agenda" (defArgs S__law_agenda) (defBody S__law_agenda) (defScope S__law_agenda) .none kV27 dc27 pm27 an27 cd27 ct27), sl27⟩) (c27 : PySem.W.codeIn K cd27 "_law_agenda" = true) (k27 : PySem.W.keepIn K (.ref f27) = true)
    {f28 : Addr} {od28 an28 : Option Addr} {sl28 : Array (Option Value)} {oc28 kV28 dc28 pm28 cd28 ct28 : Value}
    (a28 : PySem.W.nsIn K mainGlobals "_law_stranger" = some (some (.ref f28))) (l28 : K.lookup f28 = some ⟨oc28, od28, .func (PySem.W.fnOf "_law_stranger" "_law_stranger" (defArgs S__law_stranger) (defBody S__law_stranger) (defScope S__law_stranger) .none kV28 dc28 pm28 an28 cd28 ct28), sl28⟩) (c28 : PySem.W.codeIn K cd28 "_law_stranger" = true) (k28 : PySem.W.keepIn K (.ref f28) = true)
    {f29 : Addr} {od29 an29 : Option Addr} {sl29 : Array (Option Value)} {oc29 kV29 dc29 pm29 cd29 ct29 : Value}
    (a29 : PySem.W.nsIn K mainGlobals "_law_is_view" = some (some (.ref f29))) (l29 : K.lookup f29 = some ⟨oc29, od29, .func (PySem.W.fnOf "_law_is_view" "_law_is_view" (defArgs S__law_is_view) (defBody S__law_is_view) (defScope S__law_is_view) .none kV29 dc29 pm29 an29 cd29 ct29), sl29⟩) (c29 : PySem.W.codeIn K cd29 "_law_is_view" = true) (k29 : PySem.W.keepIn K (.ref f29) = true)
    {f30 : Addr} {od30 an30 : Option Addr} {sl30 : Array (Option Value)} {oc30 kV30 dc30 pm30 cd30 ct30 : Value}
    (a30 : PySem.W.nsIn K mainGlobals "_law_due" = some (some (.ref f30))) (l30 : K.lookup f30 = some ⟨oc30, od30, .func (PySem.W.fnOf "_law_due" "_law_due" (defArgs S__law_due) (defBody S__law_due) (defScope S__law_due) .none kV30 dc30 pm30 an30 cd30 ct30), sl30⟩) (c30 : PySem.W.codeIn K cd30 "_law_due" = true) (k30 : PySem.W.keepIn K (.ref f30) = true)
    {f31 : Addr} {od31 an31 : Option Addr} {sl31 : Array (Option Value)} {oc31 kV31 dc31 pm31 cd31 ct31 : Value}
    (a31 : PySem.W.nsIn K mainGlobals "_law_bent" = some (some (.ref f31))) (l31 : K.lookup f31 = some ⟨oc31, od31, .func (PySem.W.fnOf "_law_bent" "_law_bent" (defArgs S__law_bent) (defBody S__law_bent) (defScope S__law_bent) .none kV31 dc31 pm31 an31 cd31 ct31), sl31⟩) (c31 : PySem.W.codeIn K cd31 "_law_bent" = true) (k31 : PySem.W.keepIn K (.ref f31) = true)
    {f32 : Addr} {od32 an32 : Option Addr} {sl32 : Array (Option Value)} {oc32 kV32 dc32 pm32 cd32 ct32 : Value}
    (a32 : PySem.W.nsIn K mainGlobals "law" = some (some (.ref f32))) (l32 : K.lookup f32 = some ⟨oc32, od32, .func (PySem.W.fnOf "law" "law" (defArgs S_law) (defBody S_law) (defScope S_law) .none kV32 dc32 pm32 an32 cd32 ct32), sl32⟩) (c32 : PySem.W.codeIn K cd32 "law" = true) (k32 : PySem.W.keepIn K (.ref f32) = true)
    {t0 : Tok} (g0 : PySem.W.nsIn K mainGlobals "NO" = some (some (.str "!" t0)))
    (z0 : PySem.W.nsIn K mainGlobals "all" = some none)
    (z1 : PySem.W.nsIn K mainGlobals "zip" = some none)
    (z2 : PySem.W.nsIn K mainGlobals "isinstance" = some none)
    (z3 : PySem.W.nsIn K mainGlobals "str" = some none)
    (z4 : PySem.W.nsIn K mainGlobals "list" = some none)
    (z5 : PySem.W.nsIn K mainGlobals "any" = some none)
    (z6 : PySem.W.nsIn K mainGlobals "len" = some none)
    (z7 : PySem.W.nsIn K mainGlobals "enumerate" = some none)
    (z8 : PySem.W.nsIn K mainGlobals "int" = some none)
    (z9 : PySem.W.nsIn K mainGlobals "range" = some none)
    (z10 : PySem.W.nsIn K mainGlobals "bool" = some none)
    (z11 : PySem.W.nsIn K mainGlobals "sorted" = some none)
    (z12 : PySem.W.nsIn K mainGlobals "tuple" = some none)
    : ∃ fd : FuncData, (∀ (s : Shared) (v : Value), BindsTo s fd ⟨[v], []⟩ [("script", v)]) ∧ ∀ base : Heap, K.In base → base.Ns mainGlobals mg → FnOk PySem.Challenge.pw_panelsagree_k77_judge_of_barrings w K mg base (L2.CX PySem.Challenge.pw_panelsagree_k77_judge_of_barrings w) 8 fa fd ["script"] (spD ⟨K, fun _ => 0⟩ 1 C_law) := by
  have e := hfa.symm.trans (PySem.W.mg_of X G a32)
  cases e
  refine ⟨PySem.W.fnOf "law" "law" (defArgs S_law) (defBody S_law) (defScope S_law) .none kV32 dc32 pm32 an32 cd32 ct32, fun s v => .of_eq rfl, fun base _ _ => ?_⟩
  have g_NO : ∃ t, mg "NO" = some (.str "!" t) := ⟨_, PySem.W.mg_of X G g0⟩
  have z_all := PySem.W.mg_none_of X G z0
  have z_zip := PySem.W.mg_none_of X G z1
  have z_isinstance := PySem.W.mg_none_of X G z2
  have z_str := PySem.W.mg_none_of X G z3
  have z_list := PySem.W.mg_none_of X G z4
  have z_any := PySem.W.mg_none_of X G z5
  have z_len := PySem.W.mg_none_of X G z6
  have z_enumerate := PySem.W.mg_none_of X G z7
  have z_int := PySem.W.mg_none_of X G z8
  have z_range := PySem.W.mg_none_of X G z9
  have z_bool := PySem.W.mg_none_of X G z10
  have z_sorted := PySem.W.mg_none_of X G z11
  have z_tuple := PySem.W.mg_none_of X G z12
  have F0 := fun_mk (st := S_is_yes) l0 c0 k0
  have c_is_yes : Cal PySem.Challenge.pw_panelsagree_k77_judge_of_barrings w K mg base "is_yes" 1 1 (spD ⟨K, fun _ => 0⟩ 1 C_is_yes) := ⟨_, _, ["verdict"], rfl, ok_is_yes (P := PySem.Challenge.pw_panelsagree_k77_judge_of_barrings) (w := w) (K := K) (mg := mg) (base := base) (fun _ => 0) g_NO F0, PySem.W.mg_of X G a0, k0, F0.binds (ps := ["verdict"]) fun _ _ _ _ _ _ us hl => match us, hl with | [_], _ => rfl⟩
  have F1 := fun_mk (st := S_issue_of) l1 c1 k1
  have c_issue_of : Cal PySem.Challenge.pw_panelsagree_k77_judge_of_barrings w K mg base "issue_of" 2 1 (spD ⟨K, fun _ => 0⟩ 1 C_issue_of) := ⟨_, _, ["verdict"], rfl, ok_issue_of (P := PySem.Challenge.pw_panelsagree_k77_judge_of_barrings) (w := w) (K := K) (mg := mg) (base := base) (fun _ => 0) c_is_yes F1, PySem.W.mg_of X G a1, k1, F1.binds (ps := ["verdict"]) fun _ _ _ _ _ _ us hl => match us, hl with | [_], _ => rfl⟩
  have F2 := fun_mk (st := S_place_of) l2 c2 k2
  have c_place_of : Cal PySem.Challenge.pw_panelsagree_k77_judge_of_barrings w K mg base "place_of" 3 1 (spD ⟨K, fun _ => 0⟩ 1 C_place_of) := ⟨_, _, ["verdict"], rfl, ok_place_of (P := PySem.Challenge.pw_panelsagree_k77_judge_of_barrings) (w := w) (K := K) (mg := mg) (base := base) (fun _ => 0) c_issue_of c_is_yes F2, PySem.W.mg_of X G a2, k2, F2.binds (ps := ["verdict"]) fun _ _ _ _ _ _ us hl => match us, hl with | [_], _ => rfl⟩
  have F3 := fun_mk (st := S_order_of) l3 c3 k3
  have c_order_of : Cal PySem.Challenge.pw_panelsagree_k77_judge_of_barrings w K mg base "order_of" 4 1 (spF ⟨K, fun _ => 0⟩ 1 C_order_of) := ⟨_, _, ["view"], rfl, ok_order_of (P := PySem.Challenge.pw_panelsagree_k77_judge_of_barrings) (w := w) (K := K) (mg := mg) (base := base) (fun _ => 0) c_place_of F3, PySem.W.mg_of X G a3, k3, F3.binds (ps := ["view"]) fun _ _ _ _ _ _ us hl => match us, hl with | [_], _ => rfl⟩
  have F4 := fun_mk (st := S_holds) l4 c4 k4
  have c_holds : Cal PySem.Challenge.pw_panelsagree_k77_judge_of_barrings w K mg base "holds" 1 2 (spD ⟨K, fun _ => 0⟩ 2 C_holds) := ⟨_, _, ["view", "other"], rfl, ok_holds (P := PySem.Challenge.pw_panelsagree_k77_judge_of_barrings) (w := w) (K := K) (mg := mg) (base := base) (fun _ => 0) z_all F4, PySem.W.mg_of X G a4, k4, F4.binds (ps := ["view", "other"]) fun _ _ _ _ _ _ us hl => match us, hl with | [_, _], _ => rfl⟩
  have F5 := fun_mk (st := S_is_ascending) l5 c5 k5
  have c_is_ascending : Cal PySem.Challenge.pw_panelsagree_k77_judge_of_barrings w K mg base "is_ascending" 1 1 (spD ⟨K, fun _ => 0⟩ 1 C_is_ascending) := ⟨_, _, ["values"], rfl, ok_is_ascending (P := PySem.Challenge.pw_panelsagree_k77_judge_of_barrings) (w := w) (K := K) (mg := mg) (base := base) (fun _ => 0) z_all z_zip F5, PySem.W.mg_of X G a5, k5, F5.binds (ps := ["values"]) fun _ _ _ _ _ _ us hl => match us, hl with | [_], _ => rfl⟩
  have F6 := fun_mk (st := S_is_verdict) l6 c6 k6
  have c_is_verdict : Cal PySem.Challenge.pw_panelsagree_k77_judge_of_barrings w K mg base "is_verdict" 3 2 (spD ⟨K, fun _ => 0⟩ 2 C_is_verdict) := ⟨_, _, ["issues", "value"], rfl, ok_is_verdict (P := PySem.Challenge.pw_panelsagree_k77_judge_of_barrings) (w := w) (K := K) (mg := mg) (base := base) (fun _ => 0) z_isinstance z_str c_issue_of F6, PySem.W.mg_of X G a6, k6, F6.binds (ps := ["issues", "value"]) fun _ _ _ _ _ _ us hl => match us, hl with | [_, _], _ => rfl⟩
  have F7 := fun_mk (st := S_is_view_of) l7 c7 k7
  have c_is_view_of : Cal PySem.Challenge.pw_panelsagree_k77_judge_of_barrings w K mg base "is_view_of" 4 2 (spD ⟨K, fun _ => 0⟩ 2 C_is_view_of) := ⟨_, _, ["issues", "value"], rfl, ok_is_view_of (P := PySem.Challenge.pw_panelsagree_k77_judge_of_barrings) (w := w) (K := K) (mg := mg) (base := base) (fun _ => 0) z_isinstance z_list z_all c_is_verdict c_issue_of c_is_ascending F7, PySem.W.mg_of X G a7, k7, F7.binds (ps := ["issues", "value"]) fun _ _ _ _ _ _ us hl => match us, hl with | [_, _], _ => rfl⟩
  have F8 := fun_mk (st := S_holds_some) l8 c8 k8
  have c_holds_some : Cal PySem.Challenge.pw_panelsagree_k77_judge_of_barrings w K mg base "holds_some" 2 2 (spD ⟨K, fun _ => 0⟩ 2 C_holds_some) := ⟨_, _, ["view", "views"], rfl, ok_holds_some (P := PySem.Challenge.pw_panelsagree_k77_judge_of_barrings) (w := w) (K := K) (mg := mg) (base := base) (fun _ => 0) z_any c_holds F8, PySem.W.mg_of X G a8, k8, F8.binds (ps := ["view", "views"]) fun _ _ _ _ _ _ us hl => match us, hl with | [_, _], _ => rfl⟩
  have F9 := fun_mk (st := S_is_bar) l9 c9 k9
  have c_is_bar : Cal PySem.Challenge.pw_panelsagree_k77_judge_of_barrings w K mg base "is_bar" 5 2 (spD ⟨K, fun _ => 0⟩ 2 C_is_bar) := ⟨_, _, ["issues", "value"], rfl, ok_is_bar (P := PySem.Challenge.pw_panelsagree_k77_judge_of_barrings) (w := w) (K := K) (mg := mg) (base := base) (fun _ => 0) c_is_view_of z_len F9, PySem.W.mg_of X G a9, k9, F9.binds (ps := ["issues", "value"]) fun _ _ _ _ _ _ us hl => match us, hl with | [_, _], _ => rfl⟩
  have F10 := fun_mk (st := S_none_holds_another) l10 c10 k10
  have c_none_holds_another : Cal PySem.Challenge.pw_panelsagree_k77_judge_of_barrings w K mg base "none_holds_another" 3 1 (spD ⟨K, fun _ => 0⟩ 1 C_none_holds_another) := ⟨_, _, ["views"], rfl, ok_none_holds_another (P := PySem.Challenge.pw_panelsagree_k77_judge_of_barrings) (w := w) (K := K) (mg := mg) (base := base) (fun _ => 0) z_enumerate c_holds_some F10, PySem.W.mg_of X G a10, k10, F10.binds (ps := ["views"]) fun _ _ _ _ _ _ us hl => match us, hl with | [_], _ => rfl⟩
  have F11 := fun_mk (st := S_are_bars) l11 c11 k11
  have c_are_bars : Cal PySem.Challenge.pw_panelsagree_k77_judge_of_barrings w K mg base "are_bars" 6 2 (spD ⟨K, fun _ => 0⟩ 2 C_are_bars) := ⟨_, _, ["issues", "value"], rfl, ok_are_bars (P := PySem.Challenge.pw_panelsagree_k77_judge_of_barrings) (w := w) (K := K) (mg := mg) (base := base) (fun _ => 0) z_isinstance z_list z_all c_is_bar c_order_of c_is_ascending c_none_holds_another F11, PySem.W.mg_of X G a11, k11, F11.binds (ps := ["issues", "value"]) fun _ _ _ _ _ _ us hl => match us, hl with | [_, _], _ => rfl⟩
  have F12 := fun_mk (st := S_is_barring) l12 c12 k12
  have c_is_barring : Cal PySem.Challenge.pw_panelsagree_k77_judge_of_barrings w K mg base "is_barring" 7 2 (spD ⟨K, fun _ => 0⟩ 2 C_is_barring) := ⟨_, _, ["issues", "value"], rfl, ok_is_barring (P := PySem.Challenge.pw_panelsagree_k77_judge_of_barrings) (w := w) (K := K) (mg := mg) (base := base) (fun _ => 0) c_are_bars F12, PySem.W.mg_of X G a12, k12, F12.binds (ps := ["issues", "value"]) fun _ _ _ _ _ _ us hl => match us, hl with | [_, _], _ => rfl⟩
  have F13 := fun_mk (st := S__law_numbers) l13 c13 k13
  have c__law_numbers : Cal PySem.Challenge.pw_panelsagree_k77_judge_of_barrings w K mg base "_law_numbers" 1 3 (spF ⟨K, fun _ => 0⟩ 3 C__law_numbers) := ⟨_, _, ["script", "at", "count"], rfl, ok__law_numbers (P := PySem.Challenge.pw_panelsagree_k77_judge_of_barrings) (w := w) (K := K) (mg := mg) (base := base) (fun _ => 0) z_len z_int z_range F13, PySem.W.mg_of X G a13, k13, F13.binds (ps := ["script", "at", "count"]) fun _ _ _ _ _ _ us hl => match us, hl with | [_, _, _], _ => rfl⟩
  have F14 := fun_mk (st := S__law_name) l14 c14 k14
  have c__law_name : Cal PySem.Challenge.pw_panelsagree_k77_judge_of_barrings w K mg base "_law_name" 1 3 (spD ⟨K, fun _ => 0⟩ 3 C__law_name) := ⟨_, _, ["first", "size", "mix"], rfl, ok__law_name (P := PySem.Challenge.pw_panelsagree_k77_judge_of_barrings) (w := w) (K := K) (mg := mg) (base := base) (fun _ => 0) z_range F14, PySem.W.mg_of X G a14, k14, F14.binds (ps := ["first", "size", "mix"]) fun _ _ _ _ _ _ us hl => match us, hl with | [_, _, _], _ => rfl⟩
  have F15 := fun_mk (st := S__law_names) l15 c15 k15
  have c__law_names : Cal PySem.Challenge.pw_panelsagree_k77_judge_of_barrings w K mg base "_law_names" 2 2 (spF ⟨K, fun _ => 0⟩ 2 C__law_names) := ⟨_, _, ["numbers", "count"], rfl, ok__law_names (P := PySem.Challenge.pw_panelsagree_k77_judge_of_barrings) (w := w) (K := K) (mg := mg) (base := base) (fun _ => 0) z_range c__law_name z_len F15, PySem.W.mg_of X G a15, k15, F15.binds (ps := ["numbers", "count"]) fun _ _ _ _ _ _ us hl => match us, hl with | [_, _], _ => rfl⟩
  have F16 := fun_mk (st := S__law_says) l16 c16 k16
  have c__law_says : Cal PySem.Challenge.pw_panelsagree_k77_judge_of_barrings w K mg base "_law_says" 1 2 (spD ⟨K, fun _ => 0⟩ 2 C__law_says) := ⟨_, _, ["said", "due"], rfl, ok__law_says (P := PySem.Challenge.pw_panelsagree_k77_judge_of_barrings) (w := w) (K := K) (mg := mg) (base := base) (fun _ => 0) z_isinstance z_bool F16, PySem.W.mg_of X G a16, k16, F16.binds (ps := ["said", "due"]) fun _ _ _ _ _ _ us hl => match us, hl with | [_, _], _ => rfl⟩
  have F17 := fun_mk (st := S__law_issue) l17 c17 k17
  have c__law_issue : Cal PySem.Challenge.pw_panelsagree_k77_judge_of_barrings w K mg base "_law_issue" 1 1 (spD ⟨K, fun _ => 0⟩ 1 C__law_issue) := ⟨_, _, ["verdict"], rfl, ok__law_issue (P := PySem.Challenge.pw_panelsagree_k77_judge_of_barrings) (w := w) (K := K) (mg := mg) (base := base) (fun _ => 0)  F17, PySem.W.mg_of X G a17, k17, F17.binds (ps := ["verdict"]) fun _ _ _ _ _ _ us hl => match us, hl with | [_], _ => rfl⟩
  have F18 := fun_mk (st := S__law_opposite) l18 c18 k18
  have c__law_opposite : Cal PySem.Challenge.pw_panelsagree_k77_judge_of_barrings w K mg base "_law_opposite" 1 1 (spD ⟨K, fun _ => 0⟩ 1 C__law_opposite) := ⟨_, _, ["verdict"], rfl, ok__law_opposite (P := PySem.Challenge.pw_panelsagree_k77_judge_of_barrings) (w := w) (K := K) (mg := mg) (base := base) (fun _ => 0)  F18, PySem.W.mg_of X G a18, k18, F18.binds (ps := ["verdict"]) fun _ _ _ _ _ _ us hl => match us, hl with | [_], _ => rfl⟩
  have F19 := fun_mk (st := S__law_order) l19 c19 k19
  have c__law_order : Cal PySem.Challenge.pw_panelsagree_k77_judge_of_barrings w K mg base "_law_order" 2 1 (spF ⟨K, fun _ => 0⟩ 1 C__law_order) := ⟨_, _, ["view"], rfl, ok__law_order (P := PySem.Challenge.pw_panelsagree_k77_judge_of_barrings) (w := w) (K := K) (mg := mg) (base := base) (fun _ => 0) c__law_issue z_int F19, PySem.W.mg_of X G a19, k19, F19.binds (ps := ["view"]) fun _ _ _ _ _ _ us hl => match us, hl with | [_], _ => rfl⟩
  have F20 := fun_mk (st := S__law_sort) l20 c20 k20
  have c__law_sort : Cal PySem.Challenge.pw_panelsagree_k77_judge_of_barrings w K mg base "_law_sort" 3 1 (spF ⟨K, fun _ => 0⟩ 1 C__law_sort) := ⟨_, _, ["views"], rfl, ok__law_sort (P := PySem.Challenge.pw_panelsagree_k77_judge_of_barrings) (w := w) (K := K) (mg := mg) (base := base) (fun _ => 0) z_sorted c__law_order F20, PySem.W.mg_of X G a20, k20, F20.binds (ps := ["views"]) fun _ _ _ _ _ _ us hl => match us, hl with | [_], _ => rfl⟩
  have F21 := fun_mk (st := S__law_view) l21 c21 k21
  have c__law_view : Cal PySem.Challenge.pw_panelsagree_k77_judge_of_barrings w K mg base "_law_view" 2 1 (spF ⟨K, fun _ => 0⟩ 1 C__law_view) := ⟨_, _, ["verdicts"], rfl, ok__law_view (P := PySem.Challenge.pw_panelsagree_k77_judge_of_barrings) (w := w) (K := K) (mg := mg) (base := base) (fun _ => 0) z_sorted c__law_issue z_int F21, PySem.W.mg_of X G a21, k21, F21.binds (ps := ["verdicts"]) fun _ _ _ _ _ _ us hl => match us, hl with | [_], _ => rfl⟩
  have F22 := fun_mk (st := S__law_rows) l22 c22 k22
  have c__law_rows : Cal PySem.Challenge.pw_panelsagree_k77_judge_of_barrings w K mg base "_law_rows" 1 1 (spD ⟨K, fun _ => 0⟩ 1 C__law_rows) := ⟨_, _, ["issues"], rfl, ok__law_rows (P := PySem.Challenge.pw_panelsagree_k77_judge_of_barrings) (w := w) (K := K) (mg := mg) (base := base) (fun _ => 0)  F22, PySem.W.mg_of X G a22, k22, F22.binds (ps := ["issues"]) fun _ _ _ _ _ _ us hl => match us, hl with | [_], _ => rfl⟩
  have F23 := fun_mk (st := S__law_has) l23 c23 k23
  have c__law_has : Cal PySem.Challenge.pw_panelsagree_k77_judge_of_barrings w K mg base "_law_has" 1 2 (spD ⟨K, fun _ => 0⟩ 2 C__law_has) := ⟨_, _, ["view", "other"], rfl, ok__law_has (P := PySem.Challenge.pw_panelsagree_k77_judge_of_barrings) (w := w) (K := K) (mg := mg) (base := base) (fun _ => 0)  F23, PySem.W.mg_of X G a23, k23, F23.binds (ps := ["view", "other"]) fun _ _ _ _ _ _ us hl => match us, hl with | [_, _], _ => rfl⟩
  have F24 := fun_mk (st := S__law_hanging) l24 c24 k24
  have c__law_hanging : Cal PySem.Challenge.pw_panelsagree_k77_judge_of_barrings w K mg base "_law_hanging" 1 1 (spF ⟨K, fun _ => 0⟩ 1 C__law_hanging) := ⟨_, _, ["opinions"], rfl, ok__law_hanging (P := PySem.Challenge.pw_panelsagree_k77_judge_of_barrings) (w := w) (K := K) (mg := mg) (base := base) (fun _ => 0)  F24, PySem.W.mg_of X G a24, k24, F24.binds (ps := ["opinions"]) fun _ _ _ _ _ _ us hl => match us, hl with | [_], _ => rfl⟩
  have F25 := fun_mk (st := S__law_views) l25 c25 k25
  have c__law_views : Cal PySem.Challenge.pw_panelsagree_k77_judge_of_barrings w K mg base "_law_views" 1 1 (spD ⟨K, fun _ => 0⟩ 1 C__law_views) := ⟨_, _, ["issues"], rfl, ok__law_views (P := PySem.Challenge.pw_panelsagree_k77_judge_of_barrings) (w := w) (K := K) (mg := mg) (base := base) (fun _ => 0) z_list F25, PySem.W.mg_of X G a25, k25, F25.binds (ps := ["issues"]) fun _ _ _ _ _ _ us hl => match us, hl with | [_], _ => rfl⟩
  have F26 := fun_mk (st := S__law_least) l26 c26 k26
  have c__law_least : Cal PySem.Challenge.pw_panelsagree_k77_judge_of_barrings w K mg base "_law_least" 4 2 (spF ⟨K, fun _ => 0⟩ 2 C__law_least) := ⟨_, _, ["issues", "hanging"], rfl, ok__law_least (P := PySem.Challenge.pw_panelsagree_k77_judge_of_barrings) (w := w) (K := K) (mg := mg) (base := base) (fun _ => 0) c__law_views z_len z_range z_list c__law_sort F26, PySem.W.mg_of X G a26, k26, F26.binds (ps := ["issues", "hanging"]) fun _ _ _ _ _ _ us hl => match us, hl with | [_, _], _ => rfl⟩
  have F27 := fun_mk (st := S__law_agenda) l27 c27 k27
  have c__law_agenda : Cal PySem.Challenge.pw_panelsagree_k77_judge_of_barrings w K mg base "_law_agenda" 3 3 (spD ⟨K, fun _ => 0⟩ 3 C__law_agenda) := ⟨_, _, ["script", "at", "most"], rfl, ok__law_agenda (P := PySem.Challenge.pw_panelsagree_k77_judge_of_barrings) (w := w) (K := K) (mg := mg) (base := base) (fun _ => 0) c__law_numbers z_sorted c__law_names c__law_rows z_len z_range c__law_has F27, PySem.W.mg_of X G a27, k27, F27.binds (ps := ["script", "at", "most"]) fun _ _ _ _ _ _ us hl => match us, hl with | [_, _, _], _ => rfl⟩
  have F28 := fun_mk (st := S__law_stranger) l28 c28 k28
  have c__law_stranger : Cal PySem.Challenge.pw_panelsagree_k77_judge_of_barrings w K mg base "_law_stranger" 1 2 (spD ⟨K, fun _ => 0⟩ 2 C__law_stranger) := ⟨_, _, ["names", "number"], rfl, ok__law_stranger (P := PySem.Challenge.pw_panelsagree_k77_judge_of_barrings) (w := w) (K := K) (mg := mg) (base := base) (fun _ => 0) z_range z_str F28, PySem.W.mg_of X G a28, k28, F28.binds (ps := ["names", "number"]) fun _ _ _ _ _ _ us hl => match us, hl with | [_, _], _ => rfl⟩
  have F29 := fun_mk (st := S__law_is_view) l29 c29 k29
  have c__law_is_view : Cal PySem.Challenge.pw_panelsagree_k77_judge_of_barrings w K mg base "_law_is_view" 2 2 (spD ⟨K, fun _ => 0⟩ 2 C__law_is_view) := ⟨_, _, ["issues", "value"], rfl, ok__law_is_view (P := PySem.Challenge.pw_panelsagree_k77_judge_of_barrings) (w := w) (K := K) (mg := mg) (base := base) (fun _ => 0) z_isinstance z_list z_str c__law_issue z_len z_range F29, PySem.W.mg_of X G a29, k29, F29.binds (ps := ["issues", "value"]) fun _ _ _ _ _ _ us hl => match us, hl with | [_, _], _ => rfl⟩
  have F30 := fun_mk (st := S__law_due) l30 c30 k30
  have c__law_due : Cal PySem.Challenge.pw_panelsagree_k77_judge_of_barrings w K mg base "_law_due" 3 2 (spD ⟨K, fun _ => 0⟩ 2 C__law_due) := ⟨_, _, ["issues", "value"], rfl, ok__law_due (P := PySem.Challenge.pw_panelsagree_k77_judge_of_barrings) (w := w) (K := K) (mg := mg) (base := base) (fun _ => 0) z_isinstance z_list c__law_is_view z_len z_range c__law_order c__law_has F30, PySem.W.mg_of X G a30, k30, F30.binds (ps := ["issues", "value"]) fun _ _ _ _ _ _ us hl => match us, hl with | [_, _], _ => rfl⟩
  have F31 := fun_mk (st := S__law_bent) l31 c31 k31
  have c__law_bent : Cal PySem.Challenge.pw_panelsagree_k77_judge_of_barrings w K mg base "_law_bent" 4 4 (spD ⟨K, fun _ => 0⟩ 4 C__law_bent) := ⟨_, _, ["bars", "issues", "stranger", "n"], rfl, ok__law_bent (P := PySem.Challenge.pw_panelsagree_k77_judge_of_barrings) (w := w) (K := K) (mg := mg) (base := base) (fun _ => 0) z_tuple z_len c__law_opposite c__law_view c__law_sort z_list F31, PySem.W.mg_of X G a31, k31, F31.binds (ps := ["bars", "issues", "stranger", "n"]) fun _ _ _ _ _ _ us hl => match us, hl with | [_, _, _, _], _ => rfl⟩
  have F32 := fun_mk (st := S_law) l32 c32 k32
  exact ok_law (P := PySem.Challenge.pw_panelsagree_k77_judge_of_barrings) (w := w) (K := K) (mg := mg) (base := base) (fun _ => 0) c__law_numbers c__law_agenda c__law_hanging c__law_least c__law_views z_list z_range z_len c__law_has c__law_sort c__law_stranger c__law_bent z_isinstance c_is_barring c__law_due c__law_says F32
end K77
end DL

theorem DL.K77.law_true (ns : List Int) (h : ns.length ≤ 63) : DL.C_law [.scr ns] = DL.ok (.bl true) := DL.law77 ns
open PySem PySem.W PyProof.Rows
set_option maxHeartbeats 0 in
theorem PySem.Challenge.cw_panelsagree_k77_judge_of_barrings_holds : PySem.Challenge.rw_panelsagree_k77_judge_of_barrings.Holds := by
  w_on; o_law; k_head; (case hw => w_witness2)
  k_fill
  refine L2.walk_of (l := PySem.Challenge.rw_panelsagree_k77_judge_of_barrings) (n := 63) (k := 8) (x := "script") (CX := fun w => L2.CX PySem.Challenge.pw_panelsagree_k77_judge_of_barrings w) (sp := fun w => DL.spD ⟨_, fun _ => 0⟩ 1 DL.C_law) rfl (by decide) rfl ⟨rfl, by decide, by decide⟩ (fun w h Y => PySem.W.kIn_of Y) ?F (fun w H a ns hl _ hS => DL.law_end (DL.K77.law_true ns hl) hS) (fun w H s e s' h => DL.cx_end h)
  case F =>
    intro w mg fa h KX G hmg
    refine' DL.K77.all_mk KX G hmg ?xa0 ?xl0 ?xc0 ?xk0 ?xa1 ?xl1 ?xc1 ?xk1 ?xa2 ?xl2 ?xc2 ?xk2 ?xa3 ?xl3 ?xc3 ?xk3 ?xa4 ?xl4 ?xc4 ?xk4 ?xa5 ?xl5 ?xc5 ?xk5 ?xa6 ?xl6 ?xc6 ?xk6 ?xa7 ?xl7 ?xc7 ?xk7 ?xa8 ?xl8 ?xc8 ?xk8 ?xa9 ?xl9 ?xc9 ?xk9 ?xa10 ?xl10 ?xc10 ?xk10 ?xa11 ?xl11 ?xc11 ?xk11 ?xa12 ?xl12 ?xc12 ?xk12 ?xa13 ?xl13 ?xc13 ?xk13 ?xa14 ?xl14 ?xc14 ?xk14 ?xa15 ?xl15 ?xc15 ?xk15 ?xa16 ?xl16 ?xc16 ?xk16 ?xa17 ?xl17 ?xc17 ?xk17 ?xa18 ?xl18 ?xc18 ?xk18 ?xa19 ?xl19 ?xc19 ?xk19 ?xa20 ?xl20 ?xc20 ?xk20 ?xa21 ?xl21 ?xc21 ?xk21 ?xa22 ?xl22 ?xc22 ?xk22 ?xa23 ?xl23 ?xc23 ?xk23 ?xa24 ?xl24 ?xc24 ?xk24 ?xa25 ?xl25 ?xc25 ?xk25 ?xa26 ?xl26 ?xc26 ?xk26 ?xa27 ?xl27 ?xc27 ?xk27 ?xa28 ?xl28 ?xc28 ?xk28 ?xa29 ?xl29 ?xc29 ?xk29 ?xa30 ?xl30 ?xc30 ?xk30 ?xa31 ?xl31 ?xc31 ?xk31 ?xa32 ?xl32 ?xc32 ?xk32 ?xg0 ?xz0 ?xz1 ?xz2 ?xz3 ?xz4 ?xz5 ?xz6 ?xz7 ?xz8 ?xz9 ?xz10 ?xz11 ?xz12
    case xa0 => k_is
    case xl0 => k_is
    case xc0 => k_is
    case xk0 => k_is
    case xa1 => k_is
    case xl1 => k_is
    case xc1 => k_is
    case xk1 => k_is
    case xa2 => k_is
    case xl2 => k_is
    case xc2 => k_is
    case xk2 => k_is
    case xa3 => k_is
    case xl3 => k_is
    case xc3 => k_is
    case xk3 => k_is
    case xa4 => k_is
    case xl4 => k_is
    case xc4 => k_is
    case xk4 => k_is
    case xa5 => k_is
    case xl5 => k_is
    case xc5 => k_is
    case xk5 => k_is
    case xa6 => k_is
    case xl6 => k_is
    case xc6 => k_is
    case xk6 => k_is
    case xa7 => k_is
    case xl7 => k_is
    case xc7 => k_is
    case xk7 => k_is
    case xa8 => k_is
    case xl8 => k_is
    case xc8 => k_is
    case xk8 => k_is
    case xa9 => k_is
    case xl9 => k_is
    case xc9 => k_is
    case xk9 => k_is
    case xa10 => k_is
    case xl10 => k_is
    case xc10 => k_is
    case xk10 => k_is
    case xa11 => k_is
    case xl11 => k_is
    case xc11 => k_is
    case xk11 => k_is
    case xa12 => k_is
    case xl12 => k_is
    case xc12 => k_is
    case xk12 => k_is
    case xa13 => k_is
    case xl13 => k_is
    case xc13 => k_is
    case xk13 => k_is
    case xa14 => k_is
    case xl14 => k_is
    case xc14 => k_is
    case xk14 => k_is
    case xa15 => k_is
    case xl15 => k_is
    case xc15 => k_is
    case xk15 => k_is
    case xa16 => k_is
    case xl16 => k_is
    case xc16 => k_is
    case xk16 => k_is
    case xa17 => k_is
    case xl17 => k_is
    case xc17 => k_is
    case xk17 => k_is
    case xa18 => k_is
    case xl18 => k_is
    case xc18 => k_is
    case xk18 => k_is
    case xa19 => k_is
    case xl19 => k_is
    case xc19 => k_is
    case xk19 => k_is
    case xa20 => k_is
    case xl20 => k_is
    case xc20 => k_is
    case xk20 => k_is
    case xa21 => k_is
    case xl21 => k_is
    case xc21 => k_is
    case xk21 => k_is
    case xa22 => k_is
    case xl22 => k_is
    case xc22 => k_is
    case xk22 => k_is
    case xa23 => k_is
    case xl23 => k_is
    case xc23 => k_is
    case xk23 => k_is
    case xa24 => k_is
    case xl24 => k_is
    case xc24 => k_is
    case xk24 => k_is
    case xa25 => k_is
    case xl25 => k_is
    case xc25 => k_is
    case xk25 => k_is
    case xa26 => k_is
    case xl26 => k_is
    case xc26 => k_is
    case xk26 => k_is
    case xa27 => k_is
    case xl27 => k_is
    case xc27 => k_is
    case xk27 => k_is
    case xa28 => k_is
    case xl28 => k_is
    case xc28 => k_is
    case xk28 => k_is
    case xa29 => k_is
    case xl29 => k_is
    case xc29 => k_is
    case xk29 => k_is
    case xa30 => k_is
    case xl30 => k_is
    case xc30 => k_is
    case xk30 => k_is
    case xa31 => k_is
    case xl31 => k_is
    case xc31 => k_is
    case xk31 => k_is
    case xa32 => k_is
    case xl32 => k_is
    case xc32 => k_is
    case xk32 => k_is
    case xg0 => k_is
    case xz0 => k_is
    case xz1 => k_is
    case xz2 => k_is
    case xz3 => k_is
    case xz4 => k_is
    case xz5 => k_is
    case xz6 => k_is
    case xz7 => k_is
    case xz8 => k_is
    case xz9 => k_is
    case xz10 => k_is
    case xz11 => k_is
    case xz12 => k_is
